import PyProof.Rows.All
import Wide.All
import OpenK.AllK
import Wide.FinOn
import HandS.ForMost
import HandS.ForExc
import HandS.Wide
import HandS.TupAny
import HandS.Flow
import HandS.IsInst
import HandS.Codes
import HandS.Deep
import HandS.Conv
import HandS.Strs
import HandS.Style
import HandS.RaiseMore
import HandS.TupLe
import HandS.Walk
import HandS.TryOnly
import HandS.HotCalls
import HandS.ExcCtx
import HandS.ExcIs
import KE.IntTextLaws
import KE.KDictKeyed
import HandS.DictTup
import KE.KDictWalk
import KE.KDictList
import HandS.More
import HandS.SortInts
import HandS.Replace
import HandS.Dict
import KE.GoesZip
import KE.GoesMore
import HandS.Iter
import HandS.Zip
import PySem.Challenge.RW_learnplace_k72_whole_texts
set_option Elab.async false
set_option linter.all false
set_option maxRecDepth 100000
set_option maxHeartbeats 4000000

structure QBox (P : Prop) : Prop where
  out : P
theorem qboxT {P : Prop} (h : P) : QBox P = True := eq_true (QBox.mk h)
theorem qkeep {P : Prop} (h : P) : P := h

namespace Q
open PySem L2
abbrev PH := Addr → Option (HO × Bool)
def leH (h : PH) (H : Hp) : Prop := ∀ a o b, h a = some (o, b) → H a = some o
def leP (h g : PH) : Prop := ∀ a x, h a = some x → g a = some x
def ap (h g : PH) : Prop := ∀ a x y, h a = some x → g a = some y → x = y ∧ x.2 = true
abbrev Res := PH → Prop
theorem ap.symm {h g : PH} (x : ap h g) : ap g h := fun a u v hu hv => by
  obtain ⟨e, s⟩ := x a v u hv hu
  exact ⟨e.symm, by rw [← e]; exact s⟩
theorem ap.le {h g h' : PH} (x : ap h g) (l : leP h' h) : ap h' g := fun a u v hu hv => x a u v (l a u hu) hv
theorem leP.refl (h : PH) : leP h h := fun _ _ e => e
theorem leP.trans {a b c : PH} (x : leP a b) (y : leP b c) : leP a c := fun q u e => y q u (x q u e)
theorem leH.le {h g : PH} {H : Hp} (x : leH g H) (l : leP h g) : leH h H := fun a o b e => x a o b (l a _ e)
/-- parts that stand apart, each within g -/
def Parts (As : List Res) (ok : PH → Prop) : Prop := ∃ L : List (Res × PH), L.map (·.1) = As ∧ (∀ p ∈ L, p.1 p.2 ∧ ok p.2) ∧ L.Pairwise fun p q => ap p.2 q.2
def Sat (H : Hp) (As : List Res) : Prop := Parts As fun h => leH h H
def All (As : List Res) : Res := fun g => Parts As fun h => leP h g
def pts (a : Addr) (o : HO) : Res := fun h => h a = some (o, false)
def sh (a : Addr) (o : HO) : Res := fun h => h a = some (o, true)
def pure' (P : Prop) : Res := fun _ => P
def ex {α : Type} (f : α → Res) : Res := fun h => ∃ x, f x h
theorem perm_lift {α β : Type} {f : α → β} : ∀ {l m : List β}, l.Perm m → ∀ L : List α, L.map f = l → ∃ M : List α, L.Perm M ∧ M.map f = m := by
  intro l m p
  induction p with
  | nil => exact fun L e => ⟨L, .refl _, e⟩
  | cons x _ ih =>
    intro L e
    match L, e with
    | y :: L, e =>
      obtain ⟨M, p1, e1⟩ := ih L (List.cons.inj e).2
      exact ⟨y :: M, p1.cons y, by rw [List.map_cons, e1, (List.cons.inj e).1]⟩
  | swap x y l =>
    intro L e
    match L, e with
    | u :: v :: L, e =>
      have e1 := (List.cons.inj e).1
      have e2 := (List.cons.inj (List.cons.inj e).2).1
      have e3 := (List.cons.inj (List.cons.inj e).2).2
      exact ⟨v :: u :: L, List.Perm.swap v u L, by rw [List.map_cons, List.map_cons, e1, e2, e3]⟩
  | trans _ _ ih1 ih2 =>
    intro L e
    obtain ⟨M, p1, e1⟩ := ih1 L e
    obtain ⟨N, p2, e2⟩ := ih2 M e1
    exact ⟨N, p1.trans p2, e2⟩
theorem Parts.perm {As Bs : List Res} {ok : PH → Prop} (h : Parts As ok) (p : As.Perm Bs) : Parts Bs ok := by
  obtain ⟨L, e, h1, h2⟩ := h
  obtain ⟨M, q, e2⟩ := perm_lift p L e
  exact ⟨M, e2, fun x hx => h1 x (q.mem_iff.mpr hx), q.pairwise h2 fun {x y} hx => ap.symm hx⟩
theorem Parts.imp {As : List Res} {ok ok' : PH → Prop} (h : Parts As ok) (f : ∀ g, ok g → ok' g) : Parts As ok' := by
  obtain ⟨L, e, h1, h2⟩ := h
  exact ⟨L, e, fun x hx => ⟨(h1 x hx).1, f _ (h1 x hx).2⟩, h2⟩
theorem Parts.nil {ok : PH → Prop} : Parts [] ok := ⟨[], rfl, fun _ h => absurd h List.not_mem_nil, .nil⟩
theorem Parts.cons_iff {A : Res} {As : List Res} {ok : PH → Prop} : Parts (A :: As) ok ↔ ∃ h, A h ∧ ok h ∧ Parts As fun g => ok g ∧ ap h g := by
  refine QBox.out ?_
  simp (disch :=
  refine qkeep ?_
  with_unfolding_all
  constructor
  · rintro ⟨L, e, h1, h2⟩
    match L, e with
    | (B, h) :: L, e =>
      obtain ⟨e1, e2⟩ := List.cons.inj e
      cases e1
      obtain ⟨q1, q2⟩ := List.pairwise_cons.mp h2
      obtain ⟨z1, z2⟩ := h1 _ List.mem_cons_self
      exact ⟨h, z1, z2, L, e2, fun x hx => ⟨(h1 x (List.mem_cons_of_mem _ hx)).1, (h1 x (List.mem_cons_of_mem _ hx)).2, q1 x hx⟩, q2⟩
  · rintro ⟨h, ha, ho, L, e, h1, h2⟩
    refine ⟨(A, h) :: L, by rw [List.map_cons, e], fun x hx => ?_, List.pairwise_cons.mpr ⟨fun x hx => (h1 x hx).2.2, h2⟩⟩
    rcases List.mem_cons.mp hx with rfl | hx
    · exact ⟨ha, ho⟩
    · exact ⟨(h1 x hx).1, (h1 x hx).2.1⟩
  ) only [↓qboxT]

theorem Parts.append_iff {As Bs : List Res} {ok : PH → Prop} : Parts (As ++ Bs) ok ↔ ∃ L : List (Res × PH), L.map (·.1) = As ∧ (∀ p ∈ L, p.1 p.2 ∧ ok p.2) ∧ (L.Pairwise fun p q => ap p.2 q.2) ∧ Parts Bs fun g => ok g ∧ ∀ p ∈ L, ap p.2 g := by
  refine QBox.out ?_
  simp (disch :=
  refine qkeep ?_
  with_unfolding_all
  constructor
  · rintro ⟨L, e, h1, h2⟩
    obtain ⟨L1, L2, rfl, e1, e2⟩ := List.map_eq_append_iff.mp e
    obtain ⟨q1, q2, q3⟩ := List.pairwise_append.mp h2
    exact ⟨L1, e1, fun p hp => h1 p (List.mem_append_left _ hp), q1, L2, e2, fun p hp => ⟨(h1 p (List.mem_append_right _ hp)).1, (h1 p (List.mem_append_right _ hp)).2, fun q hq => q3 q hq p hp⟩, q2⟩
  · rintro ⟨L1, e1, h1, q1, L2, e2, h2, q2⟩
    refine ⟨L1 ++ L2, by rw [List.map_append, e1, e2], fun p hp => ?_, List.pairwise_append.mpr ⟨q1, q2, fun p hp q hq => (h2 q hq).2.2 p hp⟩⟩
    rcases List.mem_append.mp hp with hp | hp
    · exact h1 p hp
    · exact ⟨(h2 p hp).1, (h2 p hp).2.1⟩
  ) only [↓qboxT]

/-- the parts joined -/
def joinL : List PH → PH
  | [] => fun _ => none
  | h :: r => fun a => (h a).or (joinL r a)
theorem joinL_some : ∀ {l : List PH} {a : Addr} {x : HO × Bool}, joinL l a = some x → ∃ h ∈ l, h a = some x
  | [], _, _, e => by cases e
  | h :: r, a, x, e => by
    have e' : (h a).or (joinL r a) = some x := e
    cases q : h a with
    | none =>
      rw [q, Option.none_or] at e'
      obtain ⟨k, hk, z⟩ := joinL_some e'
      exact ⟨k, List.mem_cons_of_mem _ hk, z⟩
    | some y =>
      rw [q, Option.some_or] at e'
      cases e'
      exact ⟨h, List.mem_cons_self, q⟩
theorem le_joinL : ∀ {l : List PH}, l.Pairwise ap → ∀ h ∈ l, leP h (joinL l)
  | [], _, h, hh => absurd hh List.not_mem_nil
  | k :: r, p, h, hh => by
    obtain ⟨p1, p2⟩ := List.pairwise_cons.mp p
    intro a x e
    show (k a).or (joinL r a) = some x
    rcases List.mem_cons.mp hh with rfl | hh
    · rw [e]
      rfl
    · cases q : k a with
      | none =>
        rw [Option.none_or]
        exact le_joinL p2 h hh a x e
      | some y =>
        rw [Option.some_or, (p1 h hh a y x q e).1]
theorem Parts.all_cons {As Bs : List Res} {ok : PH → Prop} (hl : ∀ h g, leP h g → ok g → ok h) (hj : ∀ l : List PH, (∀ h ∈ l, ok h) → ok (joinL l)) : Parts (All As :: Bs) ok ↔ Parts (As ++ Bs) ok := by
  refine QBox.out ?_
  simp (disch :=
  refine qkeep ?_
  with_unfolding_all
  rw [Parts.cons_iff, Parts.append_iff]
  constructor
  · rintro ⟨h, ⟨L, e, h1, h2⟩, ho, hb⟩
    exact ⟨L, e, fun p hp => ⟨(h1 p hp).1, hl _ _ (h1 p hp).2 ho⟩, h2, hb.imp fun g hg => ⟨hg.1, fun p hp => hg.2.le (h1 p hp).2⟩⟩
  · rintro ⟨L, e, h1, h2, hb⟩
    have pw : (L.map (·.2)).Pairwise ap := List.pairwise_map.mpr h2
    refine ⟨joinL (L.map (·.2)), ⟨L, e, fun p hp => ⟨(h1 p hp).1, le_joinL pw _ (List.mem_map_of_mem hp)⟩, h2⟩, hj _ fun k hk => ?_, hb.imp fun g hg => ⟨hg.1, fun a x y hx hy => ?_⟩⟩
    · obtain ⟨p, hp, rfl⟩ := List.mem_map.mp hk
      exact (h1 p hp).2
    · obtain ⟨k, hk, z⟩ := joinL_some hx
      obtain ⟨p, hp, rfl⟩ := List.mem_map.mp hk
      exact hg.2 p hp a x y z hy
  ) only [↓qboxT]

theorem leH_joinL {H : Hp} (l : List PH) (f : ∀ h ∈ l, leH h H) : leH (joinL l) H := fun a o b e => by
  obtain ⟨k, hk, z⟩ := joinL_some e
  exact f k hk a o b z
section
variable {H H' : Hp} {A B : Res} {As Bs : List Res} {a p : Addr} {o o' : HO}
theorem Sat.perm (h : Sat H As) (q : As.Perm Bs) : Sat H Bs := Parts.perm h q
theorem Sat.nil : Sat H [] := Parts.nil
theorem Sat.same (h : Sat H As) (s : Same H H') : Sat H' As := Parts.imp h fun _ z a o b e => s a o (z a o b e)
theorem Sat.drop (h : Sat H (A :: As)) : Sat H As := by
  obtain ⟨_, _, _, q⟩ := Parts.cons_iff.mp h
  exact q.imp fun _ z => z.1
theorem Sat.imp (h : Sat H (A :: As)) (f : ∀ g, A g → B g) : Sat H (B :: As) := by
  obtain ⟨g, x, y, q⟩ := Parts.cons_iff.mp h
  exact Parts.cons_iff.mpr ⟨g, f g x, y, q⟩
theorem Sat.all : Sat H (All As :: Bs) ↔ Sat H (As ++ Bs) := Parts.all_cons (fun _ _ l z => z.le l) fun l f => leH_joinL l f
theorem Sat.ex {α : Type} {f : α → Res} : Sat H (ex f :: As) ↔ ∃ x, Sat H (f x :: As) := by
  constructor
  · intro h
    obtain ⟨g, ⟨x, z⟩, y, q⟩ := Parts.cons_iff.mp h
    exact ⟨x, Parts.cons_iff.mpr ⟨g, z, y, q⟩⟩
  · rintro ⟨x, h⟩
    exact h.imp fun g z => ⟨x, z⟩
theorem Sat.pure {P : Prop} : Sat H (pure' P :: As) ↔ P ∧ Sat H As := by
  refine QBox.out ?_
  simp (disch :=
  refine qkeep ?_
  with_unfolding_all
  constructor
  · intro h
    obtain ⟨g, z, _, _⟩ := Parts.cons_iff.mp h
    exact ⟨z, h.drop⟩
  · rintro ⟨z, h⟩
    refine Parts.cons_iff.mpr ⟨fun _ => none, z, fun _ _ _ e => ?_, Parts.imp h fun g q => ⟨q, fun _ _ _ e => ?_⟩⟩ <;> cases e
  ) only [↓qboxT]

theorem Sat.read (h : Sat H (pts a o :: As)) : H a = some o := by
  obtain ⟨g, z, y, _⟩ := Parts.cons_iff.mp h
  exact y a o false z
theorem Sat.readS (h : Sat H (sh a o :: As)) : H a = some o := by
  obtain ⟨g, z, y, _⟩ := Parts.cons_iff.mp h
  exact y a o true z
theorem Sat.upd (o' : HO) (h : Sat H (pts a o :: As)) : Sat (upd H a o') (pts a o' :: As) := by
  refine QBox.out ?_
  simp (disch :=
  refine qkeep ?_
  with_unfolding_all
  obtain ⟨g, z, y, q⟩ := Parts.cons_iff.mp h
  refine Parts.cons_iff.mpr ⟨fun b => if b = a then some (o', false) else none, if_pos rfl, fun b u t e => ?_, q.imp fun k hk => ⟨fun b u t e => ?_, fun b x w e e2 => ?_⟩⟩
  · have e' : (if b = a then some (o', false) else none) = some (u, t) := e
    by_cases hb : b = a
    · rw [if_pos hb] at e'
      cases e'
      rw [hb]
      exact upd_same
    · rw [if_neg hb] at e'
      cases e'
  · by_cases hb : b = a
    · exact absurd (hk.2 a (o, false) (u, t) z (hb ▸ e)).2 Bool.false_ne_true
    · rw [upd_ne hb]
      exact hk.1 b u t e
  · have e' : (if b = a then some (o', false) else none) = some x := e
    by_cases hb : b = a
    · exact absurd (hk.2 a (o, false) w z (hb ▸ e2)).2 Bool.false_ne_true
    · rw [if_neg hb] at e'
      cases e'
  ) only [↓qboxT]

theorem Sat.newB (t : Bool) (h : Sat H As) (hp : H p = none) : Sat (L2.upd H p o) ((fun h => h p = some (o, t)) :: As) := by
  refine QBox.out ?_
  simp (disch :=
  refine qkeep ?_
  with_unfolding_all
  refine Parts.cons_iff.mpr ⟨fun b => if b = p then some (o, t) else none, if_pos rfl, fun b u v e => ?_, Parts.imp h fun k hk => ⟨fun b u v e => ?_, fun b x w e e2 => ?_⟩⟩
  · have e' : (if b = p then some (o, t) else none) = some (u, v) := e
    by_cases hb : b = p
    · rw [if_pos hb] at e'
      cases e'
      rw [hb]
      exact upd_same
    · rw [if_neg hb] at e'
      cases e'
  · by_cases hb : b = p
    · rw [← hb, hk b u v e] at hp
      cases hp
    · rw [upd_ne hb]
      exact hk b u v e
  · have e' : (if b = p then some (o, t) else none) = some x := e
    by_cases hb : b = p
    · rw [hb] at e2
      rw [hk p w.1 w.2 e2] at hp
      cases hp
    · rw [if_neg hb] at e'
      cases e'
  ) only [↓qboxT]

theorem Sat.new (h : Sat H As) (hp : H p = none) : Sat (L2.upd H p o) (pts p o :: As) := h.newB false hp
theorem Sat.newS (h : Sat H As) (hp : H p = none) : Sat (L2.upd H p o) (sh p o :: As) := h.newB true hp
/-- what is owned may be shared from now on -/
theorem Sat.share (h : Sat H (pts a o :: As)) : Sat H (sh a o :: As) := by
  refine QBox.out ?_
  simp (disch :=
  refine qkeep ?_
  with_unfolding_all
  obtain ⟨g, z, y, q⟩ := Parts.cons_iff.mp h
  refine Parts.cons_iff.mpr ⟨fun b => if b = a then some (o, true) else none, if_pos rfl, fun b u t e => ?_, q.imp fun k hk => ⟨hk.1, fun b x w e e2 => ?_⟩⟩
  · have e' : (if b = a then some (o, true) else none) = some (u, t) := e
    by_cases hb : b = a
    · rw [if_pos hb] at e'
      cases e'
      rw [hb]
      exact y a o false z
    · rw [if_neg hb] at e'
      cases e'
  · have e' : (if b = a then some (o, true) else none) = some x := e
    by_cases hb : b = a
    · exact absurd (hk.2 a (o, false) w z (hb ▸ e2)).2 Bool.false_ne_true
    · rw [if_neg hb] at e'
      cases e'
  ) only [↓qboxT]

/-- a resource that is shared throughout -/
def Pers (A : Res) : Prop := ∀ g, A g → ∃ k, A k ∧ leP k g ∧ ∀ b x, k b = some x → x.2 = true
theorem Sat.dup (hA : Pers A) (h : Sat H (A :: As)) : Sat H (A :: A :: As) := by
  refine QBox.out ?_
  simp (disch :=
  refine qkeep ?_
  with_unfolding_all
  obtain ⟨g, z, y, q⟩ := Parts.cons_iff.mp h
  obtain ⟨k, z2, l, s⟩ := hA g z
  refine Parts.cons_iff.mpr ⟨k, z2, y.le l, Parts.cons_iff.mpr ⟨k, z2, ⟨y.le l, fun b u v e1 e2 => ?_⟩, q.imp fun m hm => ⟨⟨hm.1, hm.2.le l⟩, hm.2.le l⟩⟩⟩
  rw [e1] at e2
  exact ⟨Option.some.inj e2, s b u e1⟩
  ) only [↓qboxT]

theorem one_some {t : Bool} {b : Addr} {x : HO × Bool} (e : (if b = a then some (o, t) else none) = some x) : b = a ∧ x = (o, t) := by
  by_cases hb : b = a
  · rw [if_pos hb] at e
    exact ⟨hb, (Option.some.inj e).symm⟩
  · rw [if_neg hb] at e
    cases e
theorem pers_sh : Pers (sh a o) := by
  refine QBox.out ?_
  simp (disch :=
  refine qkeep ?_
  with_unfolding_all
  intro g z
  refine ⟨fun b => if b = a then some (o, true) else none, if_pos rfl, fun b x e => ?_, fun b x e => ?_⟩
  · obtain ⟨h1, h2⟩ := one_some e
    rw [h1, h2]
    exact z
  · rw [(one_some e).2]
  ) only [↓qboxT]

/-- bring the i-th to the front -/
theorem front_perm {α : Type} : ∀ (i : Nat) (l : List α) (x : α), l[i]? = some x → l.Perm (x :: l.eraseIdx i)
  | _, [], _, e => by simp at e
  | 0, y :: l, x, e => by
    have e' : y = x := Option.some.inj e
    subst e'
    exact .refl _
  | i + 1, y :: l, x, e => by
    have h := front_perm i l x e
    exact (h.cons y).trans (List.Perm.swap x y _)
theorem Sat.at (i : Nat) (h : Sat H As) (e : As[i]? = some A := by rfl) : Sat H (A :: As.eraseIdx i) := h.perm (front_perm i As A e)
end
end Q
namespace Q
open PySem PySem.Spec PyProof.Rows L2
section
variable {X : Cx}
/-- two numbers at hand (one match for all the operators) -/
theorem bothInt {P : Int → Int → Prop} {x y : V} (h : match x, y with | .int i, .int j => P i j | _, _ => False) : ∃ i j, x = .int i ∧ y = .int j ∧ P i j := by
  cases x <;> first | exact False.elim h | skip
  cases y <;> first | exact False.elim h | exact ⟨_, _, rfl, rfl, h⟩
def rAddU (K : PySem.W.Frag) : R2 := fun x y H Q => match x, y with
  | .int i, .int j => Q (.int (i + j)) H
  | .str i, .str j => i.length + j.length ≤ sizeLine ∧ Q (.str (i ++ j)) H
  | .ref a, .ref b => rCat (.ref a) (.ref b) H Q ∨ rCatA K (.ref a) (.ref b) H Q
  | _, _ => False
theorem op_addU' : OpR X (binaryOp .Add) (rAddU X.K) := by
  refine QBox.out ?_
  simp (disch :=
  refine qkeep ?_
  with_unfolding_all
  intro pins s σ H x y v u Q I rx ry h
  cases x <;> first | exact False.elim h | skip
  all_goals (cases y <;> first | exact False.elim h | skip)
  · exact op_add pins s σ H _ _ v u Q I rx ry ⟨_, _, rfl, rfl, h⟩
  · exact op_add_str pins s σ H _ _ v u Q I rx ry ⟨_, _, rfl, rfl, h.1, h.2⟩
  · rcases h with h | h
    · exact op_cat pins s σ H _ _ v u Q I rx ry h
    · exact op_catA pins s σ H _ _ v u Q I rx ry h
  ) only [↓qboxT]

def rSubU : R2 := fun x y H Q => match x, y with
  | .int i, .int j => Q (.int (i - j)) H
  | _, _ => False
theorem op_subU : OpR X (binaryOp .Sub) rSubU := by
  intro pins s σ H x y v u Q I rx ry h
  obtain ⟨i, j, ex, ey, h⟩ := bothInt (P := fun i j => Q (.int (i - j)) H) h
  exact op_sub pins s σ H _ _ v u Q I rx ry ⟨i, j, ex, ey, h⟩
def rMulU : R2 := fun x y H Q => match x, y with
  | .int i, .int j => (CMul i j ∨ CMulW i j) ∧ Q (.int (i * j)) H
  | .ref a, .int j => rRep (.ref a) (.int j) H Q
  | _, _ => False
theorem op_mulU : OpR X (binaryOp .Mult) rMulU := by
  refine QBox.out ?_
  simp (disch :=
  refine qkeep ?_
  with_unfolding_all
  intro pins s σ H x y v u Q I rx ry h
  cases x <;> first | exact False.elim h | skip
  all_goals (cases y <;> first | exact False.elim h | skip)
  · rcases h with ⟨c | c, h⟩
    · exact op_mul pins s σ H _ _ v u Q I rx ry ⟨_, _, rfl, rfl, c, h⟩
    · exact op_mulW pins s σ H _ _ v u Q I rx ry ⟨_, _, rfl, rfl, c, h⟩
  · exact op_rep pins s σ H _ _ v u Q I rx ry h
  ) only [↓qboxT]

def rModU : R2 := fun x y H Q => match x, y with
  | .int i, .int j => 0 < j ∧ Q (.int (i % j)) H
  | _, _ => False
theorem op_modU : OpR X (binaryOp .Mod) rModU := by
  intro pins s σ H x y v u Q I rx ry h
  obtain ⟨i, j, ex, ey, h⟩ := bothInt (P := fun i j => 0 < j ∧ Q (.int (i % j)) H) h
  exact op_mod pins s σ H _ _ v u Q I rx ry ⟨i, j, ex, ey, h.1, h.2⟩
def rDivU : R2 := fun x y H Q => match x, y with
  | .int i, .int j => CDivW i j ∧ Q (.int (i / j)) H
  | _, _ => False
theorem op_divU : OpR X (binaryOp .FloorDiv) rDivU := by
  refine QBox.out ?_
  simp (disch :=
  refine qkeep ?_
  with_unfolding_all
  intro pins s σ H x y v u Q I rx ry h
  obtain ⟨i, j, ex, ey, h⟩ := bothInt (P := fun i j => CDivW i j ∧ Q (.int (i / j)) H) h
  exact op_fdivW pins s σ H _ _ v u Q I rx ry ⟨i, j, ex, ey, h.1, h.2⟩
  ) only [↓qboxT]

def rPowU : R2 := fun x y H Q => match x, y with
  | .int i, .int j => CPow i j ∧ Q (.int (i ^ j.toNat)) H
  | _, _ => False
theorem op_powU : OpR X (binaryOp .Pow) rPowU := by
  refine QBox.out ?_
  simp (disch :=
  refine qkeep ?_
  with_unfolding_all
  intro pins s σ H x y v u Q I rx ry h
  obtain ⟨i, j, ex, ey, h⟩ := bothInt (P := fun i j => CPow i j ∧ Q (.int (i ^ j.toNat)) H) h
  exact op_pow pins s σ H _ _ v u Q I rx ry ⟨i, j, ex, ey, h.1, h.2⟩
  ) only [↓qboxT]

def rNegU : V → Hp → VK → Prop := fun x H Q => match x with
  | .int i => Q (.int (-i)) H
  | _ => False
theorem un_negU : UnR X (unaryOp .USub) rNegU := by
  intro pins s σ H x v Q I rx h
  match x, rx, h with
  | .int i, rx, h => exact un_neg pins s σ H _ v Q I rx ⟨i, rfl, h⟩
def rLtU : R2 := fun x y H Q => match x, y with
  | .int i, .int j => Q (.bl (decide (i < j))) H
  | _, _ => False
theorem op_ltU : OpR X (compareOp .Lt) rLtU := by
  intro pins s σ H x y v u Q I rx ry h
  obtain ⟨i, j, ex, ey, h⟩ := bothInt (P := fun i j => Q (.bl (decide (i < j))) H) h
  exact op_lt pins s σ H _ _ v u Q I rx ry ⟨i, j, ex, ey, h⟩
def rLeU : R2 := fun x y H Q => match x, y with
  | .int i, .int j => Q (.bl (decide (i ≤ j))) H
  | _, _ => False
theorem op_leU : OpR X (compareOp .LtE) rLeU := by
  intro pins s σ H x y v u Q I rx ry h
  obtain ⟨i, j, ex, ey, h⟩ := bothInt (P := fun i j => Q (.bl (decide (i ≤ j))) H) h
  exact op_le pins s σ H _ _ v u Q I rx ry ⟨i, j, ex, ey, h⟩
def rGtU : R2 := fun x y H Q => match x, y with
  | .int i, .int j => Q (.bl (decide (j < i))) H
  | _, _ => False
theorem op_gtU : OpR X (compareOp .Gt) rGtU := by
  intro pins s σ H x y v u Q I rx ry h
  obtain ⟨i, j, ex, ey, h⟩ := bothInt (P := fun i j => Q (.bl (decide (j < i))) H) h
  exact op_gt pins s σ H _ _ v u Q I rx ry ⟨i, j, ex, ey, h⟩
def rGeU : R2 := fun x y H Q => match x, y with
  | .int i, .int j => Q (.bl (decide (j ≤ i))) H
  | _, _ => False
/-- is: beside None or a truth -/
def rIsU (neg : Bool) : R2 := fun x y H Q => match y with
  | .non => Q (.bl (if neg then !decide (x = .non) else decide (x = .non))) H
  | .bl b => ∃ a, x = .bl a ∧ Q (.bl (if neg then !decide (a = b) else decide (a = b))) H
  | _ => False
theorem op_isU : OpR X (compareOp .Is) (rIsU false) := by
  refine QBox.out ?_
  simp (disch :=
  refine qkeep ?_
  with_unfolding_all
  intro pins s σ H x y v u Q I rx ry h
  match y, ry, h with
  | .non, ry, h => exact op_isN pins s σ H _ _ v u Q I rx ry ⟨rfl, h⟩
  | .bl b, ry, ⟨a, e, h⟩ => exact op_is_bl pins s σ H _ _ v u Q I rx ry ⟨a, b, e, rfl, h⟩
  ) only [↓qboxT]

/-- ==, != of scalars or of data of any depth -/
def rEqU (K : PySem.W.Frag) : R2 := fun x y H Q => rEq x y H Q ∨ rEqD K x y H Q
def rNeU (K : PySem.W.Frag) : R2 := fun x y H Q => rNe x y H Q ∨ rNeD K x y H Q
theorem op_eqU' (hu : X.A.units + 64 < cLine) : OpR X (compareOp .Eq) (rEqU X.K) := OpR.or op_eq (op_eqD hu)
theorem op_neU' (hu : X.A.units + 64 < cLine) : OpR X (compareOp .NotEq) (rNeU X.K) := OpR.or op_ne (op_neD hu)
/-- in -/
def rInU (K : PySem.W.Frag) (neg : Bool) : R2 := fun x y H Q => match y with
  | .str z => (∃ c : Nat, x = .str ⟨#[c]⟩ ∧ Q (.bl (if neg then !decide (c ∈ z.cps.toList) else decide (c ∈ z.cps.toList))) H)
  | .ref a => rIn K neg x (.ref a) H Q ∨ (if neg then rNotInD K else rInD K) x (.ref a) H Q ∨ ∃ o, DGet H a x o ∧ Q (.bl (if neg then !o.isSome else o.isSome)) H
  | _ => False
theorem op_notinU' (hu : X.A.units + 65 < cLine) : OpR X (compareOp .NotIn) (rInU X.K true) := by
  refine QBox.out ?_
  simp (disch :=
  refine qkeep ?_
  with_unfolding_all
  intro pins s σ H x y v u Q I rx ry h
  match y, ry, h with
  | .str z, ry, ⟨c, e, h⟩ => exact op_notIn_sign pins s σ H _ _ v u Q I rx ry ⟨c, z, e, rfl, h⟩
  | .ref a, ry, .inl h => exact op_notIn_seq pins s σ H _ _ v u Q I rx ry h
  | .ref a, ry, .inr (.inl h) => exact op_notInD hu pins s σ H _ _ v u Q I rx ry h
  | .ref a, ry, .inr (.inr ⟨o, g, h⟩) =>
    cases ry
    exact d_notIn (by omega) I g rx fun s' I' => ⟨.bl _, H, I', rfl, h⟩
  ) only [↓qboxT]

def rIxU (K : PySem.W.Frag) : R2 := fun x y H Q => match x with
  | .str z => ∃ i c, y = .int i ∧ z.length ≤ sizeLine ∧ atI z.cps.toList i = some c ∧ Q (.str ⟨#[c]⟩) H
  | .ref a => (∃ xs i v, y = .int i ∧ (SqL K H a xs ∨ SqT K H a xs) ∧ atI xs i = some v ∧ Q v H) ∨ ∃ v, DGet H a y (some v) ∧ Q v H
  | _ => False
theorem ix_dict (hu : X.A.units + 1 < cLine) : IxR X (fun x y H Q => ∃ a v, x = .ref a ∧ DGet H a y (some v) ∧ Q v H) := by
  refine QBox.out ?_
  simp (disch :=
  refine qkeep ?_
  with_unfolding_all
  intro value slice pins s σ H x y v u Q I rx ry h hs
  obtain ⟨a, w, rfl, g, q⟩ := h
  cases rx
  exact tail_any (dict_typeIs I g) PySem.F.slot_dict_getitem.lookup (d_getItem hu I g ry fun w' s3 I3 rw' => ⟨w, H, I3, rw', q⟩) hs
  ) only [↓qboxT]

theorem ix_U' (hu : X.A.units + 1 < cLine) : IxR X (rIxU X.K) := by
  refine QBox.out ?_
  simp (disch :=
  refine qkeep ?_
  with_unfolding_all
  intro value slice pins s σ H x y v u Q I rx ry h hs
  match x, rx, h with
  | .str z, rx, ⟨i, c, e, h1, h2, h⟩ => exact ix_str value slice pins s σ H _ _ v u Q I rx ry ⟨z, i, c, rfl, e, h1, h2, h⟩ hs
  | .ref a, rx, .inl ⟨xs, i, w, e, .inl h1, h2, h⟩ => exact ix_list value slice pins s σ H _ _ v u Q I rx ry ⟨a, xs, i, w, rfl, e, h1, h2, h⟩ hs
  | .ref a, rx, .inl ⟨xs, i, w, e, .inr h1, h2, h⟩ => exact ix_tup value slice pins s σ H _ _ v u Q I rx ry ⟨a, xs, i, w, rfl, e, h1, h2, h⟩ hs
  | .ref a, rx, .inr ⟨w, g, h⟩ => exact ix_dict hu value slice pins s σ H _ _ v u Q I rx ry ⟨a, w, rfl, g, h⟩ hs
  ) only [↓qboxT]

def rSlU (K : PySem.W.Frag) : V → Option Int → Option Int → Hp → VK → Prop := fun x lo hi H Q => match x with
  | .str z => z.length ≤ sizeLine ∧ Q (.str (Txt.slice z lo hi)) H
  | .ref a => (∃ xs, SqL K H a xs ∧ ∀ p, H p = none → Q (.ref p) (upd H p (.lst (cutV xs lo hi)))) ∨ rSlA K (.ref a) lo hi H Q
  | _ => False
theorem sl_U' : SlR X (rSlU X.K) := by
  refine QBox.out ?_
  simp (disch :=
  refine qkeep ?_
  with_unfolding_all
  intro pins s σ H x v vl vu lo hi sl Q I rx hs pl pu h
  match x, rx, h with
  | .str z, rx, h => exact C8.sl_txt pins s σ H _ v vl vu lo hi sl Q I rx hs pl pu ⟨z, rfl, h.1, h.2⟩
  | .ref a, rx, .inl ⟨xs, h1, h⟩ => exact sl_list pins s σ H _ v vl vu lo hi sl Q I rx hs pl pu ⟨a, xs, rfl, h1, h⟩
  | .ref a, rx, .inr h => exact sl_tupA pins s σ H _ v vl vu lo hi sl Q I rx hs pl pu h
  ) only [↓qboxT]

def rSetU : V → V → V → Hp → (Hp → Prop) → Prop := fun o i v H Q => ∃ a, o = .ref a ∧ ((∃ xs k j, i = .int k ∧ H a = some (.lst xs) ∧ ixN xs.length k = some j ∧ Q (upd H a (.lst (xs.set j v)))) ∨ ∃ H', DPut H a i v H' ∧ Q H')
theorem set_U (hu : X.A.units + 1 < cLine) : PSet X rSetU := by
  refine QBox.out ?_
  simp (disch :=
  refine qkeep ?_
  with_unfolding_all
  intro pins s σ H o i v ov iv u Q I ro ri rv h
  obtain ⟨a, rfl, h⟩ := h
  rcases h with ⟨xs, k, j, e, h1, h2, h⟩ | ⟨H', g, h⟩
  · exact set_list pins s σ H _ i v ov iv u Q I ro ri rv ⟨a, xs, k, j, rfl, e, h1, h2, h⟩
  · cases ro
    exact d_setItem hu I g ri rv fun s' I' => ⟨H', I', h⟩
  ) only [↓qboxT]

def rLenU (K : PySem.W.Frag) : List V → Hp → VK → Prop := fun xs H Q => ∃ x, xs = [x] ∧ ((∃ n, LenV K x H n ∧ Q (.int n) H) ∨ ∃ a kvs, x = .ref a ∧ H a = some (.dK kvs) ∧ Q (.int kvs.length) H)
theorem call_lenU' : CallR X (.builtin "len") (rLenU X.K) := by
  refine QBox.out ?_
  simp (disch :=
  refine qkeep ?_
  with_unfolding_all
  intro pins s σ H xs us Q I r h
  obtain ⟨x, rfl, h⟩ := h
  rcases h with ⟨n, h1, h⟩ | ⟨a, kvs, rfl, h1, h⟩
  · exact call_len pins s σ H _ us Q I r ⟨x, n, rfl, h1, h⟩
  · exact call_lenD pins s σ H _ us Q I r ⟨a, kvs, rfl, h1, h⟩
  ) only [↓qboxT]

def rAbsU : List V → Hp → VK → Prop := fun xs H Q => match xs with
  | [.int i] => Q (.int (if i < 0 then -i else i)) H
  | _ => False
theorem call_absU : CallR X (.builtin "abs") rAbsU := by
  intro pins s σ H xs us Q I r h
  match xs, r, h with
  | [.int i], r, h => exact call_abs pins s σ H _ us Q I r ⟨i, rfl, h⟩
def rMax2U : List V → Hp → VK → Prop := fun xs H Q => match xs with
  | [.int i, .int j] => Q (.int (if j > i then j else i)) H
  | _ => False
def rMin2U : List V → Hp → VK → Prop := fun xs H Q => match xs with
  | [.int i, .int j] => Q (.int (if j < i then j else i)) H
  | _ => False
variable (K : PySem.W.Frag)
theorem op_addU (h : X.K = K := by rfl) : OpR X (binaryOp .Add) (rAddU K) := h ▸ op_addU'
theorem op_eqU (hu : X.A.units + 64 < cLine) (h : X.K = K := by rfl) : OpR X (compareOp .Eq) (rEqU K) := h ▸ op_eqU' hu
theorem op_neU (hu : X.A.units + 64 < cLine) (h : X.K = K := by rfl) : OpR X (compareOp .NotEq) (rNeU K) := h ▸ op_neU' hu
theorem op_notinU (hu : X.A.units + 65 < cLine) (h : X.K = K := by rfl) : OpR X (compareOp .NotIn) (rInU K true) := h ▸ op_notinU' hu
theorem ix_U (hu : X.A.units + 1 < cLine) (h : X.K = K := by rfl) : IxR X (rIxU K) := h ▸ ix_U' hu
theorem sl_U (h : X.K = K := by rfl) : SlR X (rSlU K) := h ▸ sl_U'
theorem call_lenU (h : X.K = K := by rfl) : CallR X (.builtin "len") (rLenU K) := h ▸ call_lenU'
theorem pe_andK {a b : Expr} {rest : List Expr} {ta tb : TE} {pos : Pos} (ha : PE X a ta) (hb : PE X (.BoolOp .And (b :: rest) pos) tb) (h : X.K = K := by rfl) : PE X (.BoolOp .And (a :: b :: rest) pos) (tAndT K ta tb) := h ▸ pe_andT ha hb
theorem pg_tupK {es : List Expr} {k : Nat} {t : TGs} {n : Nat} {pos : Pos} (hc : X.calm = true) (g : PGs X es t) (hn : (assignEach es X.env).length = n := by rfl) (h2 : (assignEach es X.env).findIdx? (·.1) = none := by rfl) (h : X.K = K := by rfl) : PG X (.Tuple es k pos) (gTup K n t) :=
  h ▸ pg_tup hc g hn h2
end
end Q
namespace Q
open PySem PySem.Spec PyProof.Rows L2
section
variable {K : PySem.W.Frag} {σ : L2.St} {H : Hp} {Q : VK} {i : Nat} {v x y : V} {ta tb tc te : TE} {t u c : TT} {r : R2} {D : Ends} {tu tw tz : TS} {As : List Res} {a l p : Addr} {xs ys : List V} {tr : TA}
theorem w_var (h : σ[i]? = some (some v)) (k : Q v H) : tVar i σ H Q := ⟨v, h, k⟩
theorem w_c (k : Q v H) : tC v σ H Q := k
theorem w_op (k : ta σ H fun x H1 => tb σ H1 fun y H2 => r x y H2 Q) : tOp r ta tb σ H Q := k
theorem w_un {r : V → Hp → VK → Prop} (k : ta σ H fun x H1 => r x H1 Q) : tUn r ta σ H Q := k
theorem w_neg {n : Int} (k : Q (.int (-n)) H) : rNegU (.int n) H Q := k
theorem w_addI {m n : Int} (k : Q (.int (m + n)) H) : rAddU K (.int m) (.int n) H Q := k
theorem w_addS {m n : Str} (h : m.length + n.length ≤ 1000000) (k : Q (.str (m ++ n)) H) : rAddU K (.str m) (.str n) H Q := ⟨Nat.le_trans h (by decide), k⟩
theorem w_addSg {m n : Str} (h : m.length + n.length ≤ 1000000) (k : ∀ z, z = m ++ n → Q (.str z) H) : rAddU K (.str m) (.str n) H Q := w_addS h (k _ rfl)
theorem w_sub {m n : Int} (k : Q (.int (m - n)) H) : rSubU (.int m) (.int n) H Q := k
theorem w_mul {m n : Int} (h : CMul m n ∨ CMulW m n) (k : Q (.int (m * n)) H) : rMulU (.int m) (.int n) H Q := ⟨h, k⟩
theorem w_mod {m n : Int} (h : 0 < n) (k : Q (.int (m % n)) H) : rModU (.int m) (.int n) H Q := ⟨h, k⟩
theorem w_div {m n : Int} (h : CDivW m n) (k : Q (.int (m / n)) H) : rDivU (.int m) (.int n) H Q := ⟨h, k⟩
theorem w_pow {m n : Int} (h : CPow m n) (k : Q (.int (m ^ n.toNat)) H) : rPowU (.int m) (.int n) H Q := ⟨h, k⟩
theorem w_lt {m n : Int} (k : Q (.bl (decide (m < n))) H) : rLtU (.int m) (.int n) H Q := k
theorem w_le {m n : Int} (k : Q (.bl (decide (m ≤ n))) H) : rLeU (.int m) (.int n) H Q := k
theorem w_gt {m n : Int} (k : Q (.bl (decide (n < m))) H) : rGtU (.int m) (.int n) H Q := k
theorem w_ge {m n : Int} (k : Q (.bl (decide (n ≤ m))) H) : rGeU (.int m) (.int n) H Q := k
theorem w_eqI {m n : Int} (k : Q (.bl (decide (m = n))) H) : rEqU K (.int m) (.int n) H Q := .inl ⟨rfl, by
  have e : decide (V.int m = V.int n) = decide (m = n) := by simp
  rw [e]
  exact k⟩
theorem w_eqS {m n : Str} (k : Q (.bl (decide (m = n))) H) : rEqU K (.str m) (.str n) H Q := .inl ⟨rfl, by
  have e : decide (V.str m = V.str n) = decide (m = n) := by simp
  rw [e]
  exact k⟩
theorem w_eqB {m n : Bool} (k : Q (.bl (decide (m = n))) H) : rEqU K (.bl m) (.bl n) H Q := .inl ⟨rfl, by
  have e : decide (V.bl m = V.bl n) = decide (m = n) := by simp
  rw [e]
  exact k⟩
theorem w_neI {m n : Int} (k : Q (.bl (!decide (m = n))) H) : rNeU K (.int m) (.int n) H Q := .inl ⟨rfl, by
  have e : decide (V.int m = V.int n) = decide (m = n) := by simp
  rw [e]
  exact k⟩
theorem w_neS {m n : Str} (k : Q (.bl (!decide (m = n))) H) : rNeU K (.str m) (.str n) H Q := .inl ⟨rfl, by
  have e : decide (V.str m = V.str n) = decide (m = n) := by simp
  rw [e]
  exact k⟩
theorem w_neB {m n : Bool} (k : Q (.bl (!decide (m = n))) H) : rNeU K (.bl m) (.bl n) H Q := .inl ⟨rfl, by
  have e : decide (V.bl m = V.bl n) = decide (m = n) := by simp
  rw [e]
  exact k⟩
theorem w_isN (k : Q (.bl (decide (x = .non))) H) : rIsU false x .non H Q := k
theorem w_notN (k : Q (.bl (!decide (x = .non))) H) : rIsU true x .non H Q := k
theorem w_isB {m n : Bool} (k : Q (.bl (decide (m = n))) H) : rIsU false (.bl m) (.bl n) H Q := ⟨m, rfl, k⟩
theorem w_notB {m n : Bool} (k : Q (.bl (!decide (m = n))) H) : rIsU true (.bl m) (.bl n) H Q := ⟨m, rfl, k⟩
theorem Sat.get (S : Sat H As) (i : Nat) {o : HO} (e : As[i]? = some (pts a o)) : H a = some o := (S.at i e).read
theorem set_perm {α : Type} : ∀ (i : Nat) (l : List α) (x : α) (y : α), l[i]? = some x → (y :: l.eraseIdx i).Perm (l.set i y)
  | _, [], _, _, e => by simp at e
  | 0, z :: l, x, y, e => .refl _
  | i + 1, z :: l, x, y, e => (List.Perm.swap z y _).trans ((set_perm i l x y e).cons z)
theorem Sat.set (S : Sat H As) (i : Nat) {o : HO} (o' : HO) (e : As[i]? = some (pts a o)) : Sat (L2.upd H a o') (As.set i (pts a o')) := ((S.at i e).upd o').perm (set_perm i As _ _ e)
theorem c0 {o : HO} (S : Sat H (pts a o :: As)) : H a = some o := S.read
theorem c1 {A : Res} {o : HO} (S : Sat H (A :: pts a o :: As)) : H a = some o := S.drop.read
theorem c2 {A B : Res} {o : HO} (S : Sat H (A :: B :: pts a o :: As)) : H a = some o := S.drop.drop.read
theorem c3 {A B C : Res} {o : HO} (S : Sat H (A :: B :: C :: pts a o :: As)) : H a = some o := S.drop.drop.drop.read
theorem c4 {A B C E : Res} {o : HO} (S : Sat H (A :: B :: C :: E :: pts a o :: As)) : H a = some o := S.drop.drop.drop.drop.read
theorem c5 {A B C E F : Res} {o : HO} (S : Sat H (A :: B :: C :: E :: F :: pts a o :: As)) : H a = some o := S.drop.drop.drop.drop.drop.read
theorem c6 {A B C E F G : Res} {o : HO} (S : Sat H (A :: B :: C :: E :: F :: G :: pts a o :: As)) : H a = some o := S.drop.drop.drop.drop.drop.drop.read
theorem d0 {o : HO} (S : Sat H (sh a o :: As)) : H a = some o := S.readS
theorem d1 {A : Res} {o : HO} (S : Sat H (A :: sh a o :: As)) : H a = some o := S.drop.readS
theorem d2 {A B : Res} {o : HO} (S : Sat H (A :: B :: sh a o :: As)) : H a = some o := S.drop.drop.readS
theorem d3 {A B C : Res} {o : HO} (S : Sat H (A :: B :: C :: sh a o :: As)) : H a = some o := S.drop.drop.drop.readS
theorem d4 {A B C E : Res} {o : HO} (S : Sat H (A :: B :: C :: E :: sh a o :: As)) : H a = some o := S.drop.drop.drop.drop.readS
theorem d5 {A B C E F : Res} {o : HO} (S : Sat H (A :: B :: C :: E :: F :: sh a o :: As)) : H a = some o := S.drop.drop.drop.drop.drop.readS
theorem d6 {A B C E F G : Res} {o : HO} (S : Sat H (A :: B :: C :: E :: F :: G :: sh a o :: As)) : H a = some o := S.drop.drop.drop.drop.drop.drop.readS
theorem c7 {A0 A1 A2 A3 A4 A5 A6 : Res} {o : HO} (S : Sat H (A0 :: A1 :: A2 :: A3 :: A4 :: A5 :: A6 :: pts a o :: As)) : H a = some o := S.drop.drop.drop.drop.drop.drop.drop.read
theorem c8 {A0 A1 A2 A3 A4 A5 A6 A7 : Res} {o : HO} (S : Sat H (A0 :: A1 :: A2 :: A3 :: A4 :: A5 :: A6 :: A7 :: pts a o :: As)) : H a = some o := S.drop.drop.drop.drop.drop.drop.drop.drop.read
theorem c9 {A0 A1 A2 A3 A4 A5 A6 A7 A8 : Res} {o : HO} (S : Sat H (A0 :: A1 :: A2 :: A3 :: A4 :: A5 :: A6 :: A7 :: A8 :: pts a o :: As)) : H a = some o := S.drop.drop.drop.drop.drop.drop.drop.drop.drop.read
theorem c10 {A0 A1 A2 A3 A4 A5 A6 A7 A8 A9 : Res} {o : HO} (S : Sat H (A0 :: A1 :: A2 :: A3 :: A4 :: A5 :: A6 :: A7 :: A8 :: A9 :: pts a o :: As)) : H a = some o := S.drop.drop.drop.drop.drop.drop.drop.drop.drop.drop.read
theorem c11 {A0 A1 A2 A3 A4 A5 A6 A7 A8 A9 A10 : Res} {o : HO} (S : Sat H (A0 :: A1 :: A2 :: A3 :: A4 :: A5 :: A6 :: A7 :: A8 :: A9 :: A10 :: pts a o :: As)) : H a = some o := S.drop.drop.drop.drop.drop.drop.drop.drop.drop.drop.drop.read
theorem d7 {A0 A1 A2 A3 A4 A5 A6 : Res} {o : HO} (S : Sat H (A0 :: A1 :: A2 :: A3 :: A4 :: A5 :: A6 :: sh a o :: As)) : H a = some o := S.drop.drop.drop.drop.drop.drop.drop.readS
theorem d8 {A0 A1 A2 A3 A4 A5 A6 A7 : Res} {o : HO} (S : Sat H (A0 :: A1 :: A2 :: A3 :: A4 :: A5 :: A6 :: A7 :: sh a o :: As)) : H a = some o := S.drop.drop.drop.drop.drop.drop.drop.drop.readS
theorem d9 {A0 A1 A2 A3 A4 A5 A6 A7 A8 : Res} {o : HO} (S : Sat H (A0 :: A1 :: A2 :: A3 :: A4 :: A5 :: A6 :: A7 :: A8 :: sh a o :: As)) : H a = some o := S.drop.drop.drop.drop.drop.drop.drop.drop.drop.readS
theorem d10 {A0 A1 A2 A3 A4 A5 A6 A7 A8 A9 : Res} {o : HO} (S : Sat H (A0 :: A1 :: A2 :: A3 :: A4 :: A5 :: A6 :: A7 :: A8 :: A9 :: sh a o :: As)) : H a = some o := S.drop.drop.drop.drop.drop.drop.drop.drop.drop.drop.readS
theorem d11 {A0 A1 A2 A3 A4 A5 A6 A7 A8 A9 A10 : Res} {o : HO} (S : Sat H (A0 :: A1 :: A2 :: A3 :: A4 :: A5 :: A6 :: A7 :: A8 :: A9 :: A10 :: sh a o :: As)) : H a = some o := S.drop.drop.drop.drop.drop.drop.drop.drop.drop.drop.drop.readS
theorem w_ixL {n : Int} (h : H a = some (.lst xs)) (e : atI xs n = some v) (k : Q v H) : rIxU K (.ref a) (.int n) H Q := .inl ⟨xs, n, v, rfl, .inl (.of h), e, k⟩
theorem atI_pos {α : Type} {zs : List α} {n : Int} {z : α} (hn : 0 ≤ n) (e : zs[n.toNat]? = some z) : atI zs n = some z := by
  have h := atI_nat e
  rw [Int.toNat_of_nonneg hn] at h
  exact h
theorem w_ixN {n : Int} (h : H a = some (.lst xs)) (hn : 0 ≤ n) (e : xs[n.toNat]? = some v) (k : Q v H) : rIxU K (.ref a) (.int n) H Q := .inl ⟨xs, n, v, rfl, .inl (.of h), atI_pos hn e, k⟩
theorem w_ixNT {n : Int} (h : H a = some (.tup xs)) (hn : 0 ≤ n) (e : xs[n.toNat]? = some v) (k : Q v H) : rIxU K (.ref a) (.int n) H Q := .inl ⟨xs, n, v, rfl, .inr (.of h), atI_pos hn e, k⟩
theorem w_ixM {n : Int} (h : H a = some (.lst xs)) (hn : 0 ≤ n) (h1 : n < xs.length) (k : ∀ v ∈ xs, Q v H) : rIxU K (.ref a) (.int n) H Q := by
  have hl : n.toNat < xs.length := by omega
  exact w_ixN h hn (List.getElem?_eq_getElem hl) (k _ (List.getElem_mem hl))
theorem w_ixMS {z : Str} {n : Int} (hz : z.length ≤ 1000000) (hn : 0 ≤ n) (h1 : n < z.length) (k : ∀ c ∈ z.cps.toList, Q (.str ⟨#[c]⟩) H) : rIxU K (.str z) (.int n) H Q := by
  refine QBox.out ?_
  simp (disch :=
  refine qkeep ?_
  with_unfolding_all
  have hl : n.toNat < z.cps.toList.length := by
    have e : z.cps.toList.length = z.length := by simp [Str.length]
    omega
  exact ⟨n, _, rfl, Nat.le_trans hz (by decide), atI_pos hn (List.getElem?_eq_getElem hl), k _ (List.getElem_mem hl)⟩
  ) only [↓qboxT]

theorem w_ixT {n : Int} (h : H a = some (.tup xs)) (e : atI xs n = some v) (k : Q v H) : rIxU K (.ref a) (.int n) H Q := .inl ⟨xs, n, v, rfl, .inr (.of h), e, k⟩
theorem w_ixS {z : Str} {n : Int} {c : Nat} (hz : z.length ≤ 1000000) (e : atI z.cps.toList n = some c) (k : Q (.str ⟨#[c]⟩) H) : rIxU K (.str z) (.int n) H Q := ⟨n, c, rfl, Nat.le_trans hz (by decide), e, k⟩
theorem w_ixD {kvs : List (Key × V)} {q : Key} (h : H a = some (.dK kvs)) (hq : y = kV q) (e : valV kvs q = some v) (k : Q v H) : rIxU K (.ref a) y H Q := .inr ⟨v, by rw [hq, ← e]; exact .k h, k⟩
def kFld (K : PySem.W.Frag) (f : Str) (Q : VK) : V → Hp → Prop := fun x H1 => ∃ a C dx fs v, x = .ref a ∧ H1 a = some (.ins C dx fs) ∧ Cls K C ∧ NoAttr K C f ∧ fs.lookup f = some v ∧ Q v H1
theorem w_fld {f : Str} (k : ta σ H (kFld K f Q)) : tFld K ta f σ H Q := k
theorem w_fldV {C dx : Addr} {fs : List (Str × V)} {f : Str} (h : H a = some (.ins C dx fs)) (hc : Cls K C) (hn : NoAttr K C f) (e : fs.lookup f = some v) (k : Q v H) : kFld K f Q (.ref a) H := ⟨a, C, dx, fs, v, rfl, h, hc, hn, e, k⟩
theorem w_nil {R : List V → Hp → Prop} (k : R [] H) : tNil σ H R := k
theorem w_cons {R : List V → Hp → Prop} (k : te σ H fun x H1 => tr σ H1 fun xs H2 => R (x :: xs) H2) : tCons te tr σ H R := k
def kTup (Q : VK) : List V → Hp → Prop := fun xs H1 => xs.length ≤ sizeLine ∧ ∀ p, H1 p = none → Q (.ref p) (upd H1 p (.tup xs))
def kLst (Q : VK) : List V → Hp → Prop := fun xs H1 => xs.length ≤ sizeLine ∧ ∀ p, H1 p = none → Q (.ref p) (upd H1 p (.lst xs))
theorem w_tup (k : tr σ H (kTup Q)) : tTup tr σ H Q := k
theorem w_lst (k : tr σ H (kLst Q)) : tLst tr σ H Q := k
theorem w_newT (S : Sat H As) (hz : xs.length ≤ 1000) (k : ∀ p H', H p = none → Sat H' (sh p (.tup xs) :: As) → Q (.ref p) H') : kTup Q xs H :=
  ⟨Nat.le_trans hz (by decide), fun p hp => k p _ hp (S.newS hp)⟩
theorem w_newL (S : Sat H As) (hz : xs.length ≤ 1000) (k : ∀ p H', H p = none → Sat H' (pts p (.lst xs) :: As) → Q (.ref p) H') : kLst Q xs H :=
  ⟨Nat.le_trans hz (by decide), fun p hp => k p _ hp (S.new hp)⟩
theorem w_newU {o : HO} (S : Sat H As) (k : ∀ p H', H p = none → Sat H' (sh p o :: As) → Q (.ref p) H') : ∀ p, H p = none → Q (.ref p) (upd H p o) := fun p hp => k p _ hp (S.newS hp)
def EachP (p : V → Prop) : List V → Prop
  | [] => True
  | x :: xs => p x ∧ EachP p xs
theorem EachP.of {p : V → Prop} : ∀ {xs : List V}, EachP p xs → ∀ v ∈ xs, p v
  | _ :: _, ⟨h, _⟩, _, .head _ => h
  | _ :: _, ⟨_, h⟩, v, .tail _ m => EachP.of h v m
/-- one of the list's: what all have -/
theorem w_ixP {n : Int} (p : V → Prop) (h : H a = some (.lst xs)) (hn : 0 ≤ n) (h1 : n < xs.length) (hp : EachP p xs) (k : ∀ v, p v → Q v H) : rIxU K (.ref a) (.int n) H Q :=
  w_ixM h hn h1 fun v hv => k v (hp.of v hv)
theorem w_cb {r : List V → Hp → VK → Prop} (k : tr σ H fun vs H1 => r vs H1 Q) : tCB r tr σ H Q := k
theorem w_call {sp : Sp} {dvs : List V} {E : XK} (k : tr σ H fun vs H1 => sp (vs ++ dvs) H1 Q E) : tCall sp dvs E tr σ H Q := k
theorem w_callS {sp : Sp} {E : L2.St → XK} (k : tr σ H fun vs H1 => sp vs H1 Q (E σ)) : tCallS sp E tr σ H Q := k
theorem w_app {sp : Sp} {vs : List V} {E : XK} (k : sp vs H Q E) : sp (vs ++ []) H Q E := by
  rw [List.append_nil]
  exact k
theorem w_abs {n : Int} (k : Q (.int (if n < 0 then -n else n)) H) : rAbsU [.int n] H Q := k
theorem w_max {m n : Int} (k : Q (.int (if n > m then n else m)) H) : rMax2U [.int m, .int n] H Q := k
theorem w_min {m n : Int} (k : Q (.int (if n < m then n else m)) H) : rMin2U [.int m, .int n] H Q := k
def tTruU (K : PySem.W.Frag) (ta : TE) : TT := fun σ H Q => ta σ H fun x H' => ∃ k, TruV K x H' k ∧ Q k H'
def kBl (R : Bool → Hp → Prop) : V → Hp → Prop := fun x H1 => ∃ b, x = .bl b ∧ R b H1
def kTru (K : PySem.W.Frag) (R : Bool → Hp → Prop) : V → Hp → Prop := fun x H1 => ∃ b, TruV K x H1 b ∧ R b H1
theorem w_test {R : Bool → Hp → Prop} (k : te σ H (kBl R)) : tTest te σ H R := k
theorem w_tB {R : Bool → Hp → Prop} (k : te σ H (kBl R)) : tB te σ H R := k
theorem w_bl {b : Bool} {R : Bool → Hp → Prop} (k : R b H) : kBl R (.bl b) H := ⟨b, rfl, k⟩
theorem w_tru {R : Bool → Hp → Prop} (k : te σ H (kTru K R)) : tTruU K te σ H R := k
theorem w_truB {b : Bool} {R : Bool → Hp → Prop} (k : R b H) : kTru K R (.bl b) H := ⟨b, rfl, k⟩
theorem w_truI {n : Int} {R : Bool → Hp → Prop} (k : R (n != 0) H) : kTru K R (.int n) H := ⟨_, rfl, k⟩
theorem w_truN {R : Bool → Hp → Prop} (k : R false H) : kTru K R .non H := ⟨_, rfl, k⟩
theorem w_tyes {R : Bool → Hp → Prop} (k : R true H) : tYes σ H R := k
theorem w_and {R : Bool → Hp → Prop} (k : t σ H fun b H1 => if b = true then u σ H1 R else R false H1) : tAnd t u σ H R := k
theorem w_or {R : Bool → Hp → Prop} (k : t σ H fun b H1 => if b = true then R true H1 else u σ H1 R) : tOr t u σ H R := k
theorem w_not {R : Bool → Hp → Prop} (k : t σ H fun b H1 => R (!b) H1) : tNot t σ H R := k
theorem w_if (k : t σ H fun b H1 => if b = true then ta σ H1 Q else tb σ H1 Q) : tIf t ta tb σ H Q := k
def kAndT (K : PySem.W.Frag) (tb : TE) (σ : L2.St) (Q : VK) : V → Hp → Prop := fun x H1 => ∃ b, TruV K x H1 b ∧ if b = true then tb σ H1 Q else Q x H1
def kOrT (K : PySem.W.Frag) (tb : TE) (σ : L2.St) (Q : VK) : V → Hp → Prop := fun x H1 => ∃ b, TruV K x H1 b ∧ if b = true then Q x H1 else tb σ H1 Q
def kNotT (K : PySem.W.Frag) (Q : VK) : V → Hp → Prop := fun x H1 => ∃ b, TruV K x H1 b ∧ Q (.bl (!b)) H1
theorem w_andT (k : ta σ H (kAndT K tb σ Q)) : tAndT K ta tb σ H Q := k
theorem w_andB {b : Bool} (k : if b = true then tb σ H Q else Q (.bl b) H) : kAndT K tb σ Q (.bl b) H := ⟨b, rfl, k⟩
theorem w_orB {b : Bool} (k : if b = true then Q (.bl b) H else tb σ H Q) : kOrT K tb σ Q (.bl b) H := ⟨b, rfl, k⟩
theorem w_notB' {b : Bool} (k : Q (.bl (!b)) H) : kNotT K Q (.bl b) H := ⟨b, rfl, k⟩
theorem w_orT (k : ta σ H (kOrT K tb σ Q)) : tOrT K ta tb σ H Q := k
theorem w_notT (k : ta σ H (kNotT K Q)) : tNotT K ta σ H Q := k
theorem w_iteT {A B : Prop} (k : A) : if true = true then A else B := by rw [if_pos rfl]; exact k
theorem w_iteF {A B : Prop} (k : B) : if false = true then A else B := by rw [if_neg Bool.false_ne_true]; exact k
theorem w_iteNT {A B : Prop} (k : B) : if (!true) = true then A else B := w_iteF k
theorem w_iteNF {A B : Prop} (k : A) : if (!false) = true then A else B := w_iteT k
theorem w_ite {P A B : Prop} [Decidable P] (h1 : P → A) (h2 : ¬ P → B) : if decide P = true then A else B := by
  by_cases h : P
  · rw [decide_eq_true h]
    exact w_iteT (h1 h)
  · rw [decide_eq_false h]
    exact w_iteF (h2 h)
theorem w_iteN {P A B : Prop} [Decidable P] (h1 : ¬ P → A) (h2 : P → B) : if (!decide P) = true then A else B := by
  by_cases h : P
  · rw [decide_eq_true h]
    exact w_iteF (h2 h)
  · rw [decide_eq_false h]
    exact w_iteT (h1 h)
theorem w_iteB {b : Bool} {A B : Prop} (h1 : b = true → A) (h2 : b = false → B) : if b = true then A else B := by
  cases b with
  | true => exact w_iteT (h1 rfl)
  | false => exact w_iteF (h2 rfl)
theorem w_yes {P A B : Prop} [Decidable P] (h : P) (k : A) : if decide P = true then A else B := w_ite (fun _ => k) fun n => absurd h n
theorem w_no {P A B : Prop} [Decidable P] (h : ¬ P) (k : B) : if decide P = true then A else B := w_ite (fun y => absurd y h) fun _ => k
theorem w_noN {P A B : Prop} [Decidable P] (h : P) (k : B) : if (!decide P) = true then A else B := w_iteN (fun n => absurd h n) fun _ => k
theorem w_noB {b : Bool} {A B : Prop} (h : b = false) (k : B) : if b = true then A else B := w_iteB (fun q => by rw [h] at q; cases q) fun _ => k
def kCh (r' : R2) (tc : TE) (σ : L2.St) (y : V) (Q : VK) : V → Hp → Prop := fun z H3 => ∃ b, z = .bl b ∧ if b = true then tc σ H3 fun w H4 => r' y w H4 Q else Q (.bl false) H3
theorem w_chain {r r' : R2} (k : ta σ H fun x H1 => tb σ H1 fun y H2 => r x y H2 (kCh r' tc σ y Q)) : tChain r r' ta tb tc σ H Q := k
theorem w_chB {r' : R2} {b : Bool} (k : if b = true then tc σ H fun w H4 => r' y w H4 Q else Q (.bl false) H) : kCh r' tc σ y Q (.bl b) H := ⟨b, rfl, k⟩
theorem w_seq (k : tu { D with nx := tz D } σ H) : tSeq tu tz D σ H := k
theorem w_next (k : D.nx σ H) : tNext D σ H := k
theorem w_asg {g : TG} (k : te σ H fun x H1 => g x σ H1 D.nx) : tAsg te g D σ H := k
theorem w_name {R : L2.St → Hp → Prop} (k : R (σ.set i (some v)) H) : gName i v σ H R := k
theorem w_ifS (k : t σ H fun b H1 => if b = true then tu D σ H1 else tw D σ H1) : tIfS t tu tw D σ H := k
theorem w_ret (k : te σ H D.rt) : tRet te D σ H := k
theorem w_retN (k : D.rt .non H) : tRetN D σ H := k
theorem w_drop (k : te σ H fun _ H1 => D.nx σ H1) : tDrop te D σ H := k
theorem w_gsub {to ti : TE} {s : TSet} {R : L2.St → Hp → Prop} (k : to σ H fun o H1 => ti σ H1 fun i H2 => s o i v H2 fun H3 => R σ H3) : gSub to ti s v σ H R := k
theorem w_setL {j : Nat} {n : Int} {R : Hp → Prop} (S : Sat H As) (i : Nat) (e : As[i]? = some (pts a (.lst xs))) (hj : ixN xs.length n = some j) (k : ∀ H', Sat H' (As.set i (pts a (.lst (xs.set j v)))) → R H') : rSetU (.ref a) (.int n) v H R :=
  ⟨a, rfl, .inl ⟨xs, n, j, rfl, S.get i e, hj, k _ (S.set i _ e)⟩⟩
theorem w_setN {n : Int} {R : Hp → Prop} (S : Sat H As) (i : Nat) (e : As[i]? = some (pts a (.lst xs))) (hn : 0 ≤ n) (h1 : n.toNat < xs.length) (k : ∀ H', Sat H' (As.set i (pts a (.lst (xs.set n.toNat v)))) → R H') : rSetU (.ref a) (.int n) v H R := by
  refine w_setL S i e ?_ k
  unfold ixN
  rw [if_pos hn, if_pos (by omega)]
theorem w_append (S : Sat H As) (i : Nat) (e : As[i]? = some (pts a (.lst xs))) (hz : xs.length < sizeLine) (k : ∀ H', Sat H' (As.set i (pts a (.lst (xs ++ [y])))) → Q .non H') : rAppend (.ref a) [y] H Q :=
  ⟨a, xs, y, rfl, rfl, S.get i e, hz, k _ (S.set i _ e)⟩
def kMeth (C : Addr) (m : Str) (sp : Sp) (E : XK) (t : TA) (σ : L2.St) (Q : VK) : V → Hp → Prop := fun x H1 => ∃ a dx fs, x = .ref a ∧ H1 a = some (.ins C dx fs) ∧ fs.lookup m = none ∧ t σ H1 fun vs H2 => sp (x :: (vs ++ [])) H2 Q E
theorem w_meth {C : Addr} {m : Str} {sp : Sp} {E : XK} (k : ta σ H (kMeth C m sp E tr σ Q)) : tMeth C m sp [] E ta tr σ H Q := k
theorem w_methV {C dx : Addr} {m : Str} {sp : Sp} {E : XK} {fs : List (Str × V)} (h : H a = some (.ins C dx fs)) (hn : fs.lookup m = none) (k : tr σ H fun vs H2 => sp (.ref a :: (vs ++ [])) H2 Q E) : kMeth C m sp E tr σ Q (.ref a) H := ⟨a, dx, fs, rfl, h, hn, k⟩
theorem w_appM {sp : Sp} {vs : List V} {E : XK} (k : sp (x :: vs) H Q E) : sp (x :: (vs ++ [])) H Q E := by
  rw [List.append_nil]
  exact k
def kTy (K : PySem.W.Frag) (T : String) (r : V → List V → Hp → VK → Prop) (tr : TA) (σ : L2.St) (Q : VK) : V → Hp → Prop := fun x H1 => tyV K T x H1 ∧ tr σ H1 fun xs H2 => r x xs H2 Q
theorem w_bm {T : String} {r : V → List V → Hp → VK → Prop} (k : ta σ H (kTy K T r tr σ Q)) : tBM K T r ta tr σ H Q := k
theorem w_tyL {r : V → List V → Hp → VK → Prop} (h : H a = some (.lst xs)) (k : tr σ H fun ys H2 => r (.ref a) ys H2 Q) : kTy K "list" r tr σ Q (.ref a) H := ⟨.inl ⟨rfl, xs, .of h⟩, k⟩
theorem w_tyS {r : V → List V → Hp → VK → Prop} {z : Str} (k : tr σ H fun ys H2 => r (.str z) ys H2 Q) : kTy K "str" r tr σ Q (.str z) H := ⟨rfl, k⟩
def kFldS (K : PySem.W.Frag) (f : Str) (y : V) (R : Hp → Prop) : V → Hp → Prop := fun x H2 => ∃ a C dx fs, x = .ref a ∧ H2 a = some (.ins C dx fs) ∧ Cls K C ∧ NoAttr K C f ∧ fs.length < 1000 ∧ R (upd H2 a (.ins C dx (putF f y fs)))
theorem w_fldS {f : Str} (k : tb σ H fun y H1 => ta σ H1 (kFldS K f y (D.nx σ))) : sFld K ta tb f D σ H := k
theorem w_cut {t u : TS} (M : L2.St → Hp → Prop) (h : t { D with nx := M } σ H) (k : ∀ σ' H', M σ' H' → u D σ' H') : C8.tCut t u D σ H := ⟨M, h, k⟩
theorem w_sl {r : V → Option Int → Option Int → Hp → VK → Prop} {tl th : TO} (k : te σ H fun x H1 => tl σ H1 fun l H2 => th σ H2 fun u H3 => r x l u H3 Q) : tSl r te tl th σ H Q := k
def kInt (R : Option Int → Hp → Prop) : V → Hp → Prop := fun x H1 => ∃ n, x = .int n ∧ R (some n) H1
theorem w_part {R : Option Int → Hp → Prop} (k : te σ H (kInt R)) : tPart te σ H R := k
theorem w_int {n : Int} {R : Option Int → Hp → Prop} (k : R (some n) H) : kInt R (.int n) H := ⟨n, rfl, k⟩
theorem w_noPart {R : Option Int → Hp → Prop} (k : R none H) : tNoPart σ H R := k
theorem w_slS {z : Str} {lo hi : Option Int} (hz : z.length ≤ 1000000) (k : Q (.str (Txt.slice z lo hi)) H) : rSlU K (.str z) lo hi H Q := ⟨Nat.le_trans hz (by decide), k⟩
theorem w_slL {lo hi : Option Int} (h : H a = some (.lst xs)) (k : ∀ p, H p = none → Q (.ref p) (upd H p (.lst (cutV xs lo hi)))) : rSlU K (.ref a) lo hi H Q := .inl ⟨xs, .of h, k⟩
theorem w_lenL (h : H a = some (.lst xs)) (k : Q (.int xs.length) H) : rLenU K [.ref a] H Q := ⟨_, rfl, .inl ⟨_, .inl ⟨xs, .of h, rfl⟩, k⟩⟩
theorem w_lenT (h : H a = some (.tup xs)) (k : Q (.int xs.length) H) : rLenU K [.ref a] H Q := ⟨_, rfl, .inl ⟨_, .inr ⟨xs, .of h, rfl⟩, k⟩⟩
theorem sz {n : Nat} (h : n ≤ 1000000) : n ≤ sizeLine := Nat.le_trans h (by decide)
theorem w_lenS {z : Str} (hz : z.length ≤ 1000000) (k : Q (.int z.length) H) : rLenU K [.str z] H Q := ⟨_, rfl, .inl ⟨_, ⟨sz hz, rfl⟩, k⟩⟩
def kFor (g : TG) (tb : TS) (D : Ends) (σ : L2.St) (J : It) (H1 : Hp) : Prop := ∃ W : Nat → Nat → L2.St → Hp → Prop, (∃ m, W 0 m σ H1) ∧ ∀ i m σ H, W i m σ H →
  (J.stop i H ∧ D.nx σ H) ∨ (J.go i H ∧ ∃ N : L2.St → Hp → Prop, (∀ σ' H', N σ' H' → ∃ m', m' < m ∧ W (i + 1) m' σ' H') ∧ ∀ x H', J.yld i H x H' → g x σ H' fun σ2 H2 => tb { D with nx := N, ct := N, bk := D.nx } σ2 H2)
def kLc (g : TG) (tt : TT) (te : TE) (vs : List Nat) (σ : L2.St) (Q : VK) (J : It) (H1 : Hp) : Prop := ∀ D, H1 D = none → ∃ W : Nat → Nat → Hp → Prop, (∃ m, W 0 m (upd H1 D (.lst []))) ∧ ∀ i m H, W i m H →
  (J.stop i H ∧ Q (.ref D) H) ∨ (J.go i H ∧ ∃ Nx : Hp → Prop, (∀ H', Nx H' → ∃ m', m' < m ∧ W (i + 1) m' H') ∧ ∀ x H', J.yld i H x H' → g x (wipe σ vs) H' fun σ2 H2 => wipe σ2 vs = wipe σ vs ∧ tt σ2 H2 fun b H3 =>
    if b = true then te σ2 H3 fun y H4 => ∃ acc, H4 D = some (.lst acc) ∧ acc.length < sizeLine ∧ Nx (upd H4 D (.lst (acc ++ [y]))) else Nx H3)
theorem w_for {wi : TI} {g : TG} (k : wi σ H (kFor g tu D σ)) : tFor wi g tu D σ H := k
theorem w_lc {wi : TI} {g : TG} {vs : List Nat} (k : wi σ H (kLc g t te vs σ Q)) : tLc wi g t te vs σ H Q := k
theorem w_forK {J : It} {n : Nat} {G : Hp → Prop} {Y : Nat → Hp → V → Hp → Prop} {g : TG} (w : L2.Walk J n G Y) (Pv : Nat → L2.St → Hp → Prop) (h0 : Pv 0 σ H) (hG : ∀ i σ H, i ≤ n → Pv i σ H → G H)
    (hs : ∀ i x σ H H', i < n → Pv i σ H → Y i H x H' → g x σ H' fun σ2 H2 => tu { D with nx := Pv (i + 1), ct := Pv (i + 1), bk := D.nx } σ2 H2) (hd : ∀ σ H, Pv n σ H → D.nx σ H) : kFor g tu D σ J H :=
  for_it w Pv h0 hG hs hd
def kEl (D : Addr) (P : List V → Prop) (R : List V → List Res) (i : Nat) : V → Hp → Prop := fun y H4 => ∃ acc, H4 D = some (.lst acc) ∧ acc.length < sizeLine ∧ ∃ acc2, acc2.length ≤ i + 1 ∧ P acc2 ∧ Sat (upd H4 D (.lst (acc ++ [y]))) (pts D (.lst acc2) :: R acc2)
def kSk (D : Addr) (P : List V → Prop) (R : List V → List Res) (i : Nat) (H : Hp) : Prop := ∃ acc, acc.length ≤ i + 1 ∧ P acc ∧ Sat H (pts D (.lst acc) :: R acc)
theorem w_el {D : Addr} {P : List V → Prop} {R : List V → List Res} {acc : List V} (hi : acc.length ≤ i) (hz : i < 100000) (p : P (acc ++ [y])) (S : Sat H (pts D (.lst acc) :: R (acc ++ [y]))) : kEl D P R i y H :=
  ⟨acc, S.read, Nat.lt_of_le_of_lt hi (Nat.lt_of_lt_of_le hz (by decide)), acc ++ [y], by rw [List.length_append, List.length_singleton]; omega, p, S.upd _⟩
theorem w_sk {D : Addr} {P : List V → Prop} {R : List V → List Res} {acc : List V} (hi : acc.length ≤ i) (p : P acc) (S : Sat H (pts D (.lst acc) :: R acc)) : kSk D P R i H := ⟨acc, by omega, p, S⟩
/-- what a turn asks: the test, then the element -/
theorem w_lcK {J : It} {n : Nat} {G : Hp → Prop} {Y : Nat → Hp → V → Hp → Prop} {g : TG} {vs : List Nat} (w : L2.Walk J n G Y) (hn : n ≤ 100000) (Pf : Nat → List V → Prop) (Rf : Nat → List V → List Res) (p0 : Pf 0 []) (S : Sat H (Rf 0 []))
    (hG : ∀ i acc D H, i ≤ n → Sat H (pts D (.lst acc) :: Rf i acc) → G H)
    (hs : ∀ i acc D x H H', i < n → i < 100000 → acc.length ≤ i → Pf i acc → Sat H (pts D (.lst acc) :: Rf i acc) → Y i H x H' → g x (wipe σ vs) H' fun σ2 H2 => wipe σ2 vs = wipe σ vs ∧ t σ2 H2 fun b H3 => if b = true then te σ2 H3 (kEl D (Pf (i + 1)) (Rf (i + 1)) i) else kSk D (Pf (i + 1)) (Rf (i + 1)) i H3)
    (hd : ∀ D acc H, acc.length ≤ n → Pf n acc → Sat H (pts D (.lst acc) :: Rf n acc) → Q (.ref D) H) : kLc g t te vs σ Q J H := by
  intro D hD
  refine lc_it w (fun i H => ∃ acc, acc.length ≤ i ∧ Pf i acc ∧ Sat H (pts D (.lst acc) :: Rf i acc)) ⟨[], Nat.le_refl _, p0, S.new hD⟩ (fun i H hi h => ?_) (fun i x H H' hi h y => ?_) (fun H h => ?_)
  · obtain ⟨acc, _, _, S⟩ := h
    exact hG i acc D H hi S
  · obtain ⟨acc, hl, p, S⟩ := h
    exact hs i acc D x H H' hi (by omega) hl p S y
  · obtain ⟨acc, hl, p, S⟩ := h
    exact hd D acc H hl p S
def kSL (K : PySem.W.Frag) (R : It → Hp → Prop) : V → Hp → Prop := fun x H1 => ∃ a, x = .ref a ∧ (∃ xs, SqL K H1 a xs) ∧ R (Itl K a) H1
def kST (K : PySem.W.Frag) (R : It → Hp → Prop) : V → Hp → Prop := fun x H1 => ∃ a, x = .ref a ∧ (∃ xs, SqT K H1 a xs) ∧ R (Itt K a) H1
def kSS (R : It → Hp → Prop) : V → Hp → Prop := fun x H1 => ∃ z, x = .str z ∧ R (Its z) H1
theorem w_slV {R : It → Hp → Prop} (h : H a = some (.lst xs)) (k : R (Itl K a) H) : kSL K R (.ref a) H := ⟨a, rfl, ⟨xs, .of h⟩, k⟩
theorem w_stV {R : It → Hp → Prop} (h : H a = some (.tup xs)) (k : R (Itt K a) H) : kST K R (.ref a) H := ⟨a, rfl, ⟨xs, .of h⟩, k⟩
theorem w_ssV {R : It → Hp → Prop} {z : Str} (k : R (Its z) H) : kSS R (.str z) H := ⟨z, rfl, k⟩
def kR1 (R : It → Hp → Prop) : List V → Hp → Prop := fun vs H1 => ∃ j : Int, vs = [.int j] ∧ -(2 ^ 62) ≤ j ∧ j < 2 ^ 62 ∧ R (Itr 0 j.toNat) H1
theorem w_r1 {R : It → Hp → Prop} (k : tr σ H (kR1 R)) : iRng1 tr σ H R := k
theorem w_r1V {R : It → Hp → Prop} {n : Int} (h0 : 0 ≤ n) (h1 : n ≤ 100000) (k : R (Itr 0 n.toNat) H) : kR1 R [.int n] H := ⟨n, rfl, by omega, by omega, k⟩
def scr (K : PySem.W.Frag) (a : Addr) (xs : List V) : Res := fun h => SqL K (fun b => (h b).map (·.1)) a xs
theorem sql_mono {H' : Hp} (e : ∀ b o, H b = some o → H' b = some o) (h : SqL K H a xs) : SqL K H' a xs := by
  rcases h with (h | ⟨o, h⟩) | h
  · exact .inl (.inl (e _ _ h))
  · exact .inl (.inr ⟨o, e _ _ h⟩)
  · exact .inr h
theorem scr_get (S : Sat H (scr K a xs :: As)) : SqL K H a xs := by
  refine QBox.out ?_
  simp (disch :=
  refine qkeep ?_
  with_unfolding_all
  obtain ⟨g, z, y, _⟩ := Parts.cons_iff.mp S
  refine sql_mono (fun b o e => ?_) z
  cases q : g b with
  | none =>
    have e' : (g b).map (·.1) = some o := e
    rw [q] at e'
    cases e'
  | some x =>
    have e' : (g b).map (·.1) = some o := e
    rw [q] at e'
    cases e'
    exact y b _ x.2 q
  ) only [↓qboxT]

theorem scr_new (h : SqL K H a xs) : Sat H [scr K a xs] := by
  refine QBox.out ?_
  simp (disch :=
  refine qkeep ?_
  with_unfolding_all
  refine Parts.cons_iff.mpr ⟨fun b => (H b).map fun o => (o, true), sql_mono (fun b o e => ?_) h, fun b o t e => ?_, Parts.nil⟩
  · show ((H b).map fun o => (o, true)).map (·.1) = some o
    rw [e]
    rfl
  · have e' : (H b).map (fun o => (o, true)) = some (o, t) := e
    cases q : H b with
    | none =>
      rw [q] at e'
      cases e'
    | some u =>
      rw [q] at e'
      cases e'
      rfl
  ) only [↓qboxT]

theorem w_slQ {lo hi : Option Int} (h : SqL K H a xs) (k : ∀ p, H p = none → Q (.ref p) (upd H p (.lst (cutV xs lo hi)))) : rSlU K (.ref a) lo hi H Q := .inl ⟨xs, h, k⟩
inductive Pick : Res → List Res → List Res → Prop
  | here {A : Res} {As : List Res} : Pick A (A :: As) As
  | there {A B : Res} {As Bs : List Res} : Pick A As Bs → Pick A (B :: As) (B :: Bs)
inductive Sub : List Res → List Res → Prop
  | refl {As : List Res} : Sub As As
  | nil {As : List Res} : Sub [] As
  | skip {A : Res} {As Bs : List Res} : Sub Bs As → Sub Bs (A :: As)
  | cons {A : Res} {As Bs Cs : List Res} : Pick A As Bs → Sub Cs Bs → Sub (A :: Cs) As
theorem Pick.perm {A : Res} {As Bs : List Res} (p : Pick A As Bs) : As.Perm (A :: Bs) := by
  induction p with
  | here => exact .refl _
  | there _ ih => exact (ih.cons _).trans (List.Perm.swap _ _ _)
theorem Sub.parts {As Bs : List Res} (u : Sub Bs As) : ∀ {ok : PH → Prop}, Parts As ok → Parts Bs ok := by
  induction u with
  | refl => exact fun h => h
  | nil => exact fun _ => Parts.nil
  | skip _ ih =>
    intro ok h
    obtain ⟨_, _, _, c⟩ := Parts.cons_iff.mp h
    exact ih (c.imp fun _ z => z.1)
  | cons p _ ih =>
    intro ok h
    obtain ⟨g, a, b, c⟩ := Parts.cons_iff.mp (h.perm p.perm)
    exact Parts.cons_iff.mpr ⟨g, a, b, ih c⟩
theorem Sat.to {Bs : List Res} (S : Sat H As) (u : Sub Bs As) : Sat H Bs := u.parts S
theorem Sat.pick {A : Res} {Bs : List Res} (S : Sat H As) (p : Pick A As Bs) : Sat H (A :: Bs) := Sat.perm S p.perm
end
section
variable {K : PySem.W.Frag} {H : Hp} {σ : L2.St} {xs : List V} {x : V} {a : Addr} {g : TG} {t : TGs} {n : Nat} {Z : L2.St → Hp → Prop}
theorem w_gtup (h : H a = some (.tup xs)) (hl : xs.length = n) (k : t xs σ H Z) : gTup K n t (.ref a) σ H Z := ⟨a, xs, rfl, .of h, hl, k⟩
theorem w_gcons (k : g x σ H fun σ' H' => t xs σ' H' Z) : gCons g t (x :: xs) σ H Z := ⟨x, xs, rfl, k⟩
theorem w_gnil (k : Z σ H) : gNil [] σ H Z := ⟨rfl, k⟩
end
section
variable {K : PySem.W.Frag} {H : Hp} {Z : VK} {As : List Res} {xs ys : List V} {a b : Addr}
/-- [..] + [..] -/
theorem w_cat (S : Sat H As) (ha : H a = some (.lst xs)) (hb : H b = some (.lst ys)) (hz : xs.length + ys.length ≤ 1000000) (k : ∀ p H', H p = none → Sat H' (pts p (.lst (xs ++ ys)) :: As) → Z (.ref p) H') : rAddU K (.ref a) (.ref b) H Z :=
  .inl ⟨a, b, xs, ys, rfl, rfl, ha, hb, Nat.le_trans hz (by decide), fun p hp => k p _ hp (S.new hp)⟩
end
section
variable {K : PySem.W.Frag} {σ : L2.St} {H : Hp} {Z : VK} {As R : List Res} {a : Addr} {y v : V} {kvs : List (Key × V)} {q : Key} {td ty : TE}
def kDGet (σ : L2.St) (ty : TE) (Z : VK) : V → Hp → Prop := fun x H1 => ∃ a, x = .ref a ∧ IsD H1 a ∧ ty σ H1 fun y H2 => ∃ o, DGet H2 a y o ∧ Z (o.getD .non) H2
theorem w_dget (k : td σ H (kDGet σ ty Z)) : tDGet1 td ty σ H Z := k
def kDGot (a : Addr) (Z : VK) : V → Hp → Prop := fun y H2 => ∃ o, DGet H2 a y o ∧ Z (o.getD .non) H2
theorem w_dgetV (h : H a = some (.dK kvs)) (k : ty σ H (kDGot a Z)) : kDGet σ ty Z (.ref a) H := ⟨a, rfl, .inl ⟨kvs, .inl h⟩, k⟩
def kDPop (σ : L2.St) (ty : TE) (Z : VK) : V → Hp → Prop := fun x H1 => ∃ a, x = .ref a ∧ IsD H1 a ∧ ty σ H1 fun y H2 => ∃ kvs k v, H2 a = some (.dK kvs) ∧ y = kV k ∧ valV kvs k = some v ∧ Z v (L2.upd H2 a (.dK (dropK kvs k)))
theorem w_dpop (k : td σ H (kDPop σ ty Z)) : tDPop1 td ty σ H Z := k
def kDPopd (a : Addr) (Z : VK) : V → Hp → Prop := fun y H2 => ∃ kvs k v, H2 a = some (.dK kvs) ∧ y = kV k ∧ valV kvs k = some v ∧ Z v (L2.upd H2 a (.dK (dropK kvs k)))
theorem w_dpopV (h : H a = some (.dK kvs)) (k : ty σ H (kDPopd a Z)) : kDPop σ ty Z (.ref a) H := ⟨a, rfl, .inl ⟨kvs, .inl h⟩, k⟩
end
/-- (..) + (..) -/
theorem w_catT {K : PySem.W.Frag} {H : Hp} {Z : VK} {As : List Res} {x y : V} {xs ys : List V} {a b : Addr} (S : Sat H As) (ha : H a = some (.tup (x :: xs))) (hb : H b = some (.tup (y :: ys))) (hz : (x :: xs).length + (y :: ys).length ≤ 1000)
    (k : ∀ p H', H p = none → Sat H' (sh p (.tup (x :: xs ++ y :: ys)) :: As) → Z (.ref p) H') : rAddU K (.ref a) (.ref b) H Z :=
  .inr ⟨a, b, _, _, rfl, rfl, .of ha, .of hb, Nat.le_trans hz (by decide), fun e => (nomatch e), fun _ e => (nomatch e), fun _ _ p hp => k p _ hp (S.newS hp)⟩
def kItm (R : It → Hp → Prop) : V → Hp → Prop := fun x H1 => ∃ d o kvs, x = .ref d ∧ H1 d = some (.frz o (.dK kvs)) ∧ R (Iti d o kvs) H1
theorem w_items {td : TE} {σ : L2.St} {H : Hp} {R : It → Hp → Prop} (k : td σ H (kItm R)) : iItems td σ H R := k
section
variable {H : Hp} {Z : VK} {As : List Res} {xs : List V}
theorem w_nT (S : Sat H As) (k : ∀ p H', H p = none → Sat H' (sh p (.tup xs) :: As) → Z (.ref p) H') (hz : xs.length ≤ 1000 := by exact Nat.le_of_ble_eq_true rfl) : kTup Z xs H := w_newT S hz k
theorem w_nL (S : Sat H As) (k : ∀ p H', H p = none → Sat H' (pts p (.lst xs) :: As) → Z (.ref p) H') (hz : xs.length ≤ 1000 := by exact Nat.le_of_ble_eq_true rfl) : kLst Z xs H := w_newL S hz k
end
section
variable {K : PySem.W.Frag} {H : Hp} {Z : VK} {As R : List Res} {xs : List V} {a : Addr} {x y v : V}
theorem p_app (S : Sat H As) (pk : Pick (pts a (.lst xs)) As R) (hz : xs.length < 1000000) (k : ∀ H', Sat H' (pts a (.lst (xs ++ [y])) :: R) → Z .non H') : rAppend (.ref a) [y] H Z :=
  w_append (S.pick pk) 0 rfl (Nat.lt_trans hz (by decide)) k
end
theorem w_glst {K : PySem.W.Frag} {H : Hp} {σ : L2.St} {xs : List V} {a : Addr} {t : TGs} {n : Nat} {Z : L2.St → Hp → Prop} (h : H a = some (.lst xs)) (hl : xs.length = n) (k : t xs σ H Z) : gLst K n t (.ref a) σ H Z := ⟨a, xs, rfl, .of h, hl, k⟩
end Q
namespace Q
open PySem PySem.Spec PyProof.Rows L2 HT
section
variable {X : Cx}
/-- o[:c] = .. -/
def gHead (to th : TE) : TG := fun v σ H R => to σ H fun x H1 => th σ H1 fun y H2 => ∃ (d t : Addr) (xs ys : List V) (c : Int), x = .ref d ∧ v = .ref t ∧ y = .int c ∧ 0 ≤ c ∧ H2 d = some (.lst xs) ∧ H2 t = some (.lst ys) ∧ d ≠ t ∧ xs.length + ys.length ≤ sizeLine ∧ R σ (upd H2 d (.lst (ys ++ xs.drop c.toNat)))
end
theorem w_head {to th : TE} {v : V} {σ : L2.St} {H : Hp} {R : L2.St → Hp → Prop} (k : to σ H fun x H1 => th σ H1 fun y H2 => ∃ (d t : Addr) (xs ys : List V) (c : Int), x = .ref d ∧ v = .ref t ∧ y = .int c ∧ 0 ≤ c ∧ H2 d = some (.lst xs) ∧ H2 t = some (.lst ys) ∧ d ≠ t ∧ xs.length + ys.length ≤ sizeLine ∧ R σ (L2.upd H2 d (.lst (ys ++ xs.drop c.toNat)))) : gHead to th v σ H R := k
end Q
namespace Q
open PySem PySem.Spec PyProof.Rows L2
/-- a def of the module: where it stands, how its arguments bind -/
structure Df (K : PySem.W.Frag) (mg : Str → Option Value) (x : Str) (st : Stmt) (ps : List Str) : Prop where
  ex : ∃ f fd, Fun K x x st f fd ∧ mg x = some (.ref f) ∧ Binds K fd ps []
section
variable (P : Program) (w : World) (K : PySem.W.Frag) (mg : Str → Option Value) (base : Heap) (CX : CXT)
structure Cl (k : Nat) (x : Str) (sp : Sp) : Prop where
  ex : ∃ f fd ps, FnOk P w K mg base CX k f fd ps sp ∧ mg x = some (.ref f) ∧ PySem.W.keepIn K (.ref f) = true ∧ Binds K fd ps []
end
section
variable {P : Program} {w : World} {K : PySem.W.Frag} {mg : Str → Option Value} {base : Heap} {CX : CXT} {k : Nat} {x m qual : Str} {st : Stmt} {N ps : List Str} {sp sp' : Sp} {C : Addr}
theorem Df.cl (d : Df K mg x st ps) (S : FnScope N ps (defScope st)) (len : ∀ vs H Q E, sp vs H Q E → vs.length = ps.length)
    (hb : ∀ (f : Addr) (cdv : Value) (A : Around) (outer : List Env) (s : Shared) (H : Hp) (vs : List V) (Q : VK) (E : XK), Room k (A.deeper (envOfC x (defScope st) s.heap.objs.size f cdv)) → sp vs H Q E →
      ∃ t, PSs (cxOf CX0 P w K mg base N x (defScope st) f cdv A outer s H E).nox (defBody st) t ∧ t { nx := fun _ H' => Q .non H', rt := Q } (L2.start N vs) H) : Cl P w K mg base CX0 (k + 1) x sp := by
  obtain ⟨f, fd, F, hm, b⟩ := d.ex
  exact ⟨f, fd, ps, F.ok S len (hb f), hm, F.kp, b⟩
theorem Cl.imp (c : Cl P w K mg base CX k x sp) (h : ∀ vs H Q E, sp' vs H Q E → sp vs H Q E) : Cl P w K mg base CX k x sp' := by
  obtain ⟨f, fd, ps, F, a⟩ := c.ex
  exact ⟨f, fd, ps, F.imp h, a⟩
end
section
variable {X : Cx} {CX : CXT} {k j : Nat} {C : Addr} {x m : Str} {sp : Sp} {E : XK} {p pos apos : Pos} {e o : Expr} {es : List Expr} {ta : TE} {t : TA}
theorem pz0 : Passes CX0 X E0 := pass0
theorem hu65 {A : Around} (r : Room k A) : A.units + 65 < cLine := by have := r.un; omega
theorem pe_cl (c : Cl X.prog X.w X.K X.mg X.base CX k x sp) (hr : Room j X.A) (hk : k ≤ j) (hx : Passes CX X E) (hg : Gl X x) (ha : PA X (e :: es) t)
    (h1 : (x == ("__debug__" : Str)) = false := by decide) (h2 : starEach (e :: es) X.env = (false, eval e X.env) :: starEach es X.env := by rfl) (h3 : (backTo pos (starEach es X.env)).any (·.1) = false := by rfl) : PE X (.Call (.Name x p) (e :: es) [] pos) (tCall sp [] E t) := by
  obtain ⟨f, fd, ps, F, hm, kp, b⟩ := c.ex
  exact pe_call F (hr.mono hk) hg hm kp b .nil hx ha h1 h2 h3
theorem pe_cl0 (c : Cl X.prog X.w X.K X.mg X.base CX k x sp) (hr : Room j X.A) (hk : k ≤ j) (hx : Passes CX X E) (hg : Gl X x)
    (h1 : (x == ("__debug__" : Str)) = false := by decide) : PE X (.Call (.Name x p) [] [] pos) (tCall sp [] E tNil) := by
  obtain ⟨f, fd, ps, F, hm, kp, b⟩ := c.ex
  exact pe_call0 F (hr.mono hk) hg hm kp b .nil hx h1
/-- a method called where an exception is awaited -/
def tMethX (C : Addr) (m : Str) (sp : Sp) (E : L2.St → XK) (ta : TE) (t : TA) : TE := fun σ H Q => tMeth C m sp [] (E σ) ta t σ H Q
/-- a constant of the module -/
theorem pe_gv {v : V} (hg : Gl X x) (h : ∃ u, X.mg x = some u ∧ RelV v u) (h1 : (x == ("__debug__" : Str)) = false := by decide) : PE X (.Name x pos) (tC v) := by
  obtain ⟨u, hm, r⟩ := h
  exact pe_glob hg hm r h1
/-- an own class, named -/
theorem pe_clsN {c : Addr} (hg : Gl X x) (hm : X.mg x = some (.ref c)) (h1 : (x == ("__debug__" : Str)) = false := by decide) : PE X (.Name x pos) (tC (.ref c)) := pe_glob hg hm rfl h1
theorem pt_truK {a : Expr} (K : PySem.W.Frag) (ha : PE X a ta) (he : ∀ whole, isTrue a X.env whole = (do let v ← whole; standAt a.pos; holding [v] (truthy v))) (h : X.K = K := by rfl) : PT X a (tTruU K ta) := h ▸ pt_truth ha he
/-- a walk over a list, a tuple or a text -/
def iSeqU (K : PySem.W.Frag) (tl : TE) : TI := fun σ H R => iList K tl σ H R ∨ iTup K tl σ H R ∨ iStr tl σ H R
theorem pi_seqU {tg l : Expr} (hl : PE X l ta) : PI X tg l (iSeqU X.K ta) := by
  refine ⟨fun pins s σ H R I h => ?_⟩
  rcases h with h | h | h
  · exact (pi_list hl).run pins s σ H R I h
  · exact (pi_tup hl).run pins s σ H R I h
  · exact (pi_str hl).run pins s σ H R I h
theorem w_sqL {tl : TE} {K : PySem.W.Frag} {σ : L2.St} {H : Hp} {R : It → Hp → Prop} (k : tl σ H (kSL K R)) : iSeqU K tl σ H R := .inl k
theorem w_sqT {tl : TE} {K : PySem.W.Frag} {σ : L2.St} {H : Hp} {R : It → Hp → Prop} (k : tl σ H (kST K R)) : iSeqU K tl σ H R := .inr (.inl k)
theorem w_sqS {tl : TE} {K : PySem.W.Frag} {σ : L2.St} {H : Hp} {R : It → Hp → Prop} (k : tl σ H (kSS R)) : iSeqU K tl σ H R := .inr (.inr k)
theorem pi_seqK {tg l : Expr} (K : PySem.W.Frag) (hl : PE X l ta) (h : X.K = K := by rfl) : PI X tg l (iSeqU K ta) := h ▸ pi_seqU hl
theorem w_methX {E : L2.St → XK} {σ : L2.St} {H : Hp} {Q : VK} {tr : TA} (k : ta σ H (kMeth C m sp (E σ) tr σ Q)) : tMethX C m sp E ta tr σ H Q := k
def rIntU : List V → Hp → VK → Prop := fun xs H Q => ∃ x, xs = [x] ∧ match x with
  | .int i => Q (.int i) H
  | .bl b => Q (.int (if b then 1 else 0)) H
  | .str a => ∃ n, PySem.intText? a = some n ∧ a.length ≤ 640 ∧ Q (.int n) H
  | _ => False
theorem call_intU : CallR X (.type "int") rIntU := by
  refine QBox.out ?_
  simp (disch :=
  refine qkeep ?_
  with_unfolding_all
  intro pins s σ H xs us Q I r h
  obtain ⟨y, rfl, h⟩ := h
  match y, r, h with
  | .int i, r, h => exact call_int1 pins s σ H _ us Q I r (.inl ⟨i, rfl, h⟩)
  | .bl b, r, h => exact call_int1 pins s σ H _ us Q I r (.inr ⟨b, rfl, h⟩)
  | .str a, r, ⟨n, h1, h2, h⟩ => exact call_int_str pins s σ H _ us Q I r ⟨a, n, rfl, h1, h2, h⟩
  ) only [↓qboxT]

def rStrU : List V → Hp → VK → Prop := fun xs H Q => ∃ x, xs = [x] ∧ match x with
  | .int i => i.natAbs.log2 < 1920 ∧ Q (.str (toString i)) H
  | .str a => Q (.str a) H
  | _ => False
theorem call_strU : CallR X (.type "str") rStrU := by
  refine QBox.out ?_
  simp (disch :=
  refine qkeep ?_
  with_unfolding_all
  intro pins s σ H xs us Q I r h
  obtain ⟨y, rfl, h⟩ := h
  match y, r, h with
  | .int i, r, h => exact call_str_int pins s σ H _ us Q I r ⟨i, rfl, h.1, h.2⟩
  | .str a, r, h => exact SkE.call_str_str pins s σ H _ us Q I r ⟨a, rfl, h⟩
  ) only [↓qboxT]

def rListU (K : PySem.W.Frag) : List V → Hp → VK → Prop := fun xs H Q => ∃ p ys, xs = [.ref p] ∧ (SqL K H p ys ∨ SqT K H p ys) ∧ ∀ l, H l = none → Q (.ref l) (upd H l (.lst ys))
theorem call_listK (K : PySem.W.Frag) (h : X.K = K := by rfl) : CallR X (.type "list") (rListU K) := h ▸ call_list_of
theorem w_listL {K : PySem.W.Frag} {H : Hp} {Q : VK} {As : List Res} {p : Addr} {ys : List V} (S : Sat H As) (h : H p = some (.lst ys)) (k : ∀ l H', H l = none → Sat H' (pts l (.lst ys) :: As) → Q (.ref l) H') : rListU K [.ref p] H Q := ⟨p, ys, rfl, .inl (.of h), fun l hl => k l _ hl (S.new hl)⟩
def rIsiU (K : PySem.W.Frag) : List V → Hp → VK → Prop := fun xs H Q => rIsi K xs H Q ∨ rIsiT K xs H Q
theorem call_isiU' : CallR X (.builtin "isinstance") (rIsiU X.K) := CallR.or call_isi call_isiT
theorem call_isiU (K : PySem.W.Frag) (h : X.K = K := by rfl) : CallR X (.builtin "isinstance") (rIsiU K) := h ▸ call_isiU'
def rJoinU (K : PySem.W.Frag) : V → List V → Hp → VK → Prop := fun x xs H Q => ∃ a p, ∃ ys : List Str, x = .str a ∧ xs = [.ref p] ∧ (SqL K H p (ys.map V.str) ∨ SqT K H p (ys.map V.str)) ∧ (ys.map (·.length)).sum + ys.length * a.length ≤ 16777216 ∧ Q (.str (Txt.join a ys)) H
theorem mt_joinU (K : PySem.W.Frag) (h : X.K = K := by rfl) : MtR X "str.join" (rJoinU K) := h ▸ mt_join
theorem pe_bmK {T : String} {id : String} {name : Str} {r : V → List V → Hp → VK → Prop} {cpos : Pos} (K : PySem.W.Frag) (pa : PlainAttrs T) (slot : Slot T name id) (hty : typeOf (.builtin id) = pure (.type "method_descriptor")) (hm : MtR X id r) (ho : PE X o ta) (ha : PA X (e :: es) t)
    (h1 : attributeBase o name X.env (eval o X.env) = eval o X.env := by rfl)
    (h2 : ((backTo cpos (starEach (e :: es) X.env)).all (fun x => !x.1) && (backToKw cpos (keywordEach [] X.env)).all (fun x => x.1.isSome) && decide ((e :: es).length + ([] : List Keyword).length + (if ([] : List Keyword).isEmpty then 0 else 1) < 30)) = true := by rfl)
    (h3 : (apos.endLine == cpos.line) = true := by rfl) (h4 : starEach (e :: es) X.env = (false, eval e X.env) :: starEach es X.env := by rfl) (h5 : (backTo cpos (starEach es X.env)).any (·.1) = false := by rfl) (h : X.K = K := by rfl) :
    PE X (.Call (.Attribute o name apos) (e :: es) [] cpos) (tBM K T r ta t) := h ▸ pe_bm pa slot hty hm ho ha h1 h2 h3 h4 h5
theorem pe_bm0K {T : String} {id : String} {name : Str} {r : V → List V → Hp → VK → Prop} {cpos : Pos} (K : PySem.W.Frag) (pa : PlainAttrs T) (slot : Slot T name id) (hty : typeOf (.builtin id) = pure (.type "method_descriptor")) (hm : MtR X id r) (ho : PE X o ta)
    (h1 : attributeBase o name X.env (eval o X.env) = eval o X.env := by rfl) (h3 : (apos.endLine == cpos.line) = true := by rfl) (h : X.K = K := by rfl) :
    PE X (.Call (.Attribute o name apos) [] [] cpos) (tBM0 K T r ta) := h ▸ pe_bm0 pa slot hty hm ho h1 h3
end
end Q
namespace Q
open PySem PySem.Spec PyProof.Rows L2
abbrev veB : List Value := [.type "ValueError", .type "Exception", .type "BaseException", .type "object"]
/-- an own class over ValueError without an __init__ of its own -/
structure Xc (K : PySem.W.Frag) (mg : Str → Option Value) (x : Str) (C : Addr) : Prop where
  q : PySem.W.excIn K C veB "ValueError.__new__" = true
  g : mg x = some (.ref C)
  k : PySem.W.keepIn K (.ref C) = true
  b : PySem.W.subIn K (.ref C) (.type "BaseException") = some true
  t : PySem.W.typeIn K (.ref C) = some (.type "type")
section
variable {X : Cx} {C : Addr} {x m : Str} {W : WX} {H : Hp} {σ : L2.St} {D : Ends}
def tRaise (C : Addr) (W : WX) : TS := fun _ σ H => W (.ref C) none σ H
theorem w_raise (k : W (.ref C) none σ H) : tRaise C W D σ H := k
end
end Q
open PySem PySem.Spec PyProof.Rows L2 Q
local macro_rules | `(tactic| walk_at "h") => `(tactic| first
  | with_reducible assumption
  | exact c0 (by with_reducible assumption) | exact c1 (by with_reducible assumption) | exact c2 (by with_reducible assumption) | exact c3 (by with_reducible assumption)
  | exact d0 (by with_reducible assumption) | exact d1 (by with_reducible assumption) | exact d2 (by with_reducible assumption) | exact d3 (by with_reducible assumption)
  | exact c4 (by with_reducible assumption) | exact c5 (by with_reducible assumption) | exact c6 (by with_reducible assumption)
  | exact d4 (by with_reducible assumption) | exact d5 (by with_reducible assumption) | exact d6 (by with_reducible assumption)
  | exact c7 (by with_reducible assumption) | exact d7 (by with_reducible assumption)
  | exact c8 (by with_reducible assumption) | exact d8 (by with_reducible assumption)
  | exact c9 (by with_reducible assumption) | exact d9 (by with_reducible assumption)
  | exact c10 (by with_reducible assumption) | exact d10 (by with_reducible assumption)
  | exact c11 (by with_reducible assumption) | exact d11 (by with_reducible assumption))
local macro_rules | `(tactic| walk_at "x") => `(tactic| first
  | ((with_reducible refine' w_var ?h ?_); (case h => exact rfl))
  | (with_reducible refine w_c ?_)
  | (with_reducible refine w_op ?_)
  | (with_reducible refine w_seq ?_)
  | (with_reducible refine w_asg ?_)
  | (with_reducible refine w_name ?_)
  | (with_reducible refine w_cons ?_)
  | (with_reducible refine w_gcons ?_)
  | (with_reducible refine w_gnil ?_)
  | ((with_reducible refine' w_gtup ?h ?e ?_); (case h => walk_at "h"); (case e => rfl))
  | ((with_reducible refine' w_glst ?h ?e ?_); (case h => walk_at "h"); (case e => rfl))
  | (with_reducible refine w_nil ?_)
  | (with_reducible refine w_ret ?_)
  | (with_reducible refine w_drop ?_)
  | (with_reducible refine Q.w_raise ?_)
  | (with_reducible refine w_retN ?_)
  | (with_reducible refine w_next ?_)
  | (with_reducible refine w_ifS ?_)
  | (with_reducible refine w_test ?_)
  | (with_reducible refine w_tru ?_)
  | (with_reducible refine w_tB ?_)
  | (with_reducible refine w_and ?_)
  | (with_reducible refine w_tyes ?_)
  | (with_reducible refine w_abs ?_)
  | (with_reducible refine w_max ?_)
  | (with_reducible refine w_min ?_)
  | (with_reducible refine w_or ?_)
  | (with_reducible refine w_not ?_)
  | (with_reducible refine w_if ?_)
  | (with_reducible refine w_andT ?_)
  | (with_reducible refine w_orT ?_)
  | (with_reducible refine w_notT ?_)
  | (with_reducible refine w_iteT ?_)
  | (with_reducible refine w_iteF ?_)
  | (with_reducible refine w_iteNT ?_)
  | (with_reducible refine w_iteNF ?_)
  | (with_reducible refine w_bl ?_)
  | (with_reducible refine w_truB ?_)
  | (with_reducible refine w_truI ?_)
  | (with_reducible refine w_int ?_)
  | (with_reducible refine w_call ?_)
  | (with_reducible refine w_callS ?_)
  | (with_reducible refine w_app ?_)
  | (with_reducible refine w_cb ?_)
  | (with_reducible refine w_tup ?_)
  | (with_reducible refine w_lst ?_)
  | (with_reducible refine w_sl ?_)
  | (with_reducible refine w_part ?_)
  | (with_reducible refine w_noPart ?_)
  | (with_reducible refine w_un ?_)
  | (with_reducible refine w_neg ?_)
  | (with_reducible refine w_gsub ?_)
  | (with_reducible refine w_chain ?_)
  | (with_reducible refine w_bm ?_)
  | (with_reducible refine w_head ?_)
  | (with_reducible refine w_fldS ?_)
  | (with_reducible refine w_for ?_)
  | (with_reducible refine w_lc ?_)
  | (with_reducible refine w_r1 ?_)
  | (with_reducible refine w_meth ?_)
  | (with_reducible refine w_methX ?_)
  | (with_reducible refine w_appM ?_)
  | (with_reducible refine w_fld ?_)
  | (with_reducible refine w_andB ?_)
  | (with_reducible refine w_orB ?_)
  | (with_reducible refine w_notB' ?_)
  | (with_reducible refine w_chB ?_)
  | (with_reducible refine w_truN ?_)
  | (with_reducible refine w_tyS ?_)
  | ((with_reducible refine' w_tyL ?h ?_); (case h => walk_at "h"))
  | ((with_reducible refine' w_fldV ?h ?c ?n ?e ?_); (case h => walk_at "h"); (case c => assumption); (case n => assumption); (case e => exact rfl))
  | (with_reducible refine w_dget ?_)
  | (with_reducible refine w_dpop ?_)
  | ((with_reducible refine' w_dgetV ?h ?_); (case h => walk_at "h"))
  | ((with_reducible refine' w_dpopV ?h ?_); (case h => walk_at "h"))
  | (with_reducible refine w_items ?_)
  | (with_reducible refine w_addI ?_)
  | (with_reducible refine w_sub ?_)
  | ((with_reducible refine' w_mod ?h ?_); (case h => first | decide | omega))
  | (with_reducible refine w_lt ?_)
  | (with_reducible refine w_le ?_)
  | (with_reducible refine w_gt ?_)
  | (with_reducible refine w_ge ?_)
  | (with_reducible refine w_eqI ?_)
  | (with_reducible refine w_eqS ?_)
  | (with_reducible refine w_eqB ?_)
  | (with_reducible refine w_neI ?_)
  | (with_reducible refine w_neS ?_)
  | (with_reducible refine w_neB ?_)
  | (with_reducible refine w_isN ?_)
  | (with_reducible refine w_notN ?_)
  | (with_reducible refine w_isB ?_)
  | (with_reducible refine w_notB ?_)
  | ((with_reducible refine' w_ixN ?h ?z ?e ?_); (case h => walk_at "h"); (case z => first | decide | omega); (case e => first | exact rfl | assumption))
  | ((with_reducible refine' w_ixNT ?h ?z ?e ?_); (case h => walk_at "h"); (case z => first | decide | omega); (case e => first | exact rfl | assumption))
  | ((with_reducible refine' w_ixL ?h ?e ?_); (case h => walk_at "h"); (case e => exact rfl))
  | ((with_reducible refine' w_ixT ?h ?e ?_); (case h => walk_at "h"); (case e => exact rfl))
  | ((with_reducible refine' w_lenS ?h ?_); (case h => first | assumption | omega))
  | ((with_reducible refine' w_slS ?h ?_); (case h => first | assumption | omega))
  | ((with_reducible refine' w_lenL ?h ?_); (case h => walk_at "h"))
  | ((with_reducible refine' w_lenT ?h ?_); (case h => walk_at "h")))
local macro_rules | `(tactic| walk_at "xs") => `(tactic| repeat (walk_at "x"))
local macro_rules | `(tactic| walk_at "i") => `(tactic| (dsimp only [cxOf, Cx.nox, Cx.wish, L2.start, List.map, List.length_cons, List.length_nil, List.replicate, Nat.reduceAdd, Nat.reduceSub, List.cons_append, List.nil_append]))
local macro_rules | `(tactic| walk_at "pick") => `(tactic| first | (with_reducible exact Pick.here) | ((with_reducible apply Pick.there); walk_at "pick"))
local macro_rules | `(tactic| walk_at "s") => `(tactic| first | (with_reducible exact Sub.refl) | (with_reducible exact Sub.nil) | ((with_reducible apply Sub.cons); (walk_at "pick"); walk_at "s") | ((with_reducible apply Sub.skip); walk_at "s"))
local macro_rules | `(tactic| walk_at "n") => `(tactic| dsimp only [List.set])
namespace Q
/-- the signs of a text, each a text -/
def chrs (l : List Nat) : List V := l.map fun c => V.str ⟨#[c]⟩
abbrev tl (z : Str) : List Nat := z.cps.toList
theorem tl_len (z : Str) : (tl z).length = z.length := by simp [Str.length]
theorem tl_app (x y : Str) : tl (x ++ y) = tl x ++ tl y := TL.tl_append x y
theorem str_ext {x y : Str} (h : tl x = tl y) : x = y := TL.ext_tl h
section
variable {K : PySem.W.Frag} {σ : L2.St} {H : Hp} {Q : VK} {As : List Res} {a b : Addr} {xs ys : List V} {x y : V}
theorem dp_chrs (h : SqL K H a (chrs l)) : Dp K H (.ref a) (.list (l.map fun c => .str ⟨#[c]⟩)) := by
  refine .lst h ?_
  clear h
  unfold chrs
  induction l with
  | nil => exact .nil
  | cons c l ih => exact .cons (.str _) ih
theorem lay_chrs : ∀ l : List Nat, (∀ c ∈ l, c < 1114112) → PyData.canLayAll0 (l.map fun c => .str ⟨#[c]⟩) = true
  | [], _ => rfl
  | c :: l, h => by
    have h1 := lay_chrs l fun d hd => h d (List.mem_cons_of_mem _ hd)
    have h2 := h c List.mem_cons_self
    have e : PyData.canLay0 (.str ⟨#[c]⟩) = true := by
      show (#[c] : Array Nat).all (· < 0x110000) = true
      simp
      exact h2
    show (PyData.canLay0 (.str ⟨#[c]⟩) && PyData.canLayAll0 (l.map fun c => .str ⟨#[c]⟩)) = true
    rw [e, h1]
    rfl
theorem depth_chrs : ∀ l : List Nat, PyData.depthAll (l.map fun c => .str ⟨#[c]⟩) = 0
  | [] => rfl
  | c :: l => by
    show max (PyData.depth (.str ⟨#[c]⟩)) (PyData.depthAll (l.map fun c => .str ⟨#[c]⟩)) = 0
    rw [depth_chrs l]
    rfl
theorem shaped_chrs {l : List Nat} (h : ∀ c ∈ l, c < 1114112) : SeqAt.shaped (.list (l.map fun c => .str ⟨#[c]⟩)) = true := by
  refine QBox.out ?_
  simp (disch :=
  refine qkeep ?_
  with_unfolding_all
  have e1 : PyData.canLay0 (.list (l.map fun c => .str ⟨#[c]⟩)) = true := lay_chrs l h
  have e2 : PyData.depth (.list (l.map fun c => .str ⟨#[c]⟩)) = 1 := by
    show PyData.depthAll _ + 1 = 1
    rw [depth_chrs]
  unfold SeqAt.shaped
  rw [e1, e2]
  rfl
  ) only [↓qboxT]

theorem eqv_nil (l : List Nat) : PyData.eqv (.list (l.map fun c => .str ⟨#[c]⟩)) (.list []) = l.isEmpty := by
  cases l <;> rfl
theorem w_isi {n : String} {t : Value} {r : Bool} (ty : TyOf K H x t) (e : PySem.W.kitOne K t (.type n) = some r) (k : Q (.bl r) H) : rIsiU K [x, .ty n] H Q := .inl ⟨x, .ty n, t, .type n, r, rfl, .ty _, .base ty, e, k⟩
/-- [..] == [], != [] of signs -/
theorem w_eqC {l : List Nat} (h : H a = some (.lst (chrs l))) (h0 : H b = some (.lst [])) (hl : ∀ c ∈ l, c < 1114112) (k : Q (.bl l.isEmpty) H) : rEqU K (.ref a) (.ref b) H Q :=
  .inr ⟨_, .list [], dp_chrs (.of h), .lst (.of h0) .nil, shaped_chrs hl, by decide, by rw [eqv_nil]; exact k⟩
theorem w_neC {l : List Nat} (h : H a = some (.lst (chrs l))) (h0 : H b = some (.lst [])) (hl : ∀ c ∈ l, c < 1114112) (k : Q (.bl (!l.isEmpty)) H) : rNeU K (.ref a) (.ref b) H Q :=
  .inr ⟨_, .list [], dp_chrs (.of h), .lst (.of h0) .nil, shaped_chrs hl, by decide, by rw [eqv_nil]; exact k⟩
theorem w_notinS {z : Str} {c : Nat} (k : Q (.bl (!decide (c ∈ tl z))) H) : rInU K true (.str ⟨#[c]⟩) (.str z) H Q := ⟨c, rfl, k⟩
theorem take_succ_of {α : Type} {l : List α} {i : Nat} {x : α} (h : l[i]? = some x) : l.take (i + 1) = l.take i ++ [x] := by
  rw [List.take_succ, h]
  rfl
/-- [sign for sign in y if sign not in z] -/
theorem w_nots {z y : Str} {j : Nat} (hj : j < σ.length) (hl : y.length ≤ 100000) (S : Sat H As)
    (k : ∀ D H', Sat H' (pts D (.lst (chrs ((tl y).filter fun c => !decide (c ∈ tl z)))) :: As) → Q (.ref D) H') :
    kLc (gName j) (tTest (tOp (rInU K true) (tVar j) (tC (.str z)))) (tVar j) [j] σ Q (Its y) H := by
  refine w_lcK walk_str (by have e : y.cps.size = y.length := rfl; omega) (fun i acc => acc = chrs (((tl y).take i).filter fun c => !decide (c ∈ tl z))) (fun _ _ => As) rfl S (fun _ _ _ _ _ _ => trivial) ?_ ?_
  · rintro i acc D x H H' hi hz hl rfl S ⟨rfl, c, hc, rfl⟩
    have hc' : (tl y)[i]? = some c := by
      rw [← hc]
      simp
    have hg : (((wipe σ [j]).set j (some (V.str ⟨#[c]⟩)))[j]?) = some (some (V.str ⟨#[c]⟩)) := by
      rw [List.getElem?_set_self]
      rw [wipe_length]
      exact hj
    refine w_name ⟨?_, ?_⟩
    · show (((σ.set j none).set j (some (V.str ⟨#[c]⟩))).set j none) = σ.set j none
      rw [List.set_set, List.set_set]
    · refine w_test (w_op (w_var hg (w_c (w_notinS (w_bl ?_)))))
      have e : ((tl y).take (i + 1)).filter (fun c => !decide (c ∈ tl z)) = ((tl y).take i).filter (fun c => !decide (c ∈ tl z)) ++ if c ∈ tl z then [] else [c] := by
        rw [take_succ_of hc', List.filter_append]
        by_cases q : c ∈ tl z
        · have d : decide (c ∈ tl z) = true := decide_eq_true q
          rw [if_pos q, List.filter_cons, d]
          rfl
        · have d : decide (c ∈ tl z) = false := decide_eq_false q
          rw [if_neg q, List.filter_cons, d]
          rfl
      refine w_iteN (fun n => ?_) (fun q => ?_)
      · refine w_var hg (w_el hl hz ?_ S)
        rw [e, if_neg n]
        unfold chrs
        rw [List.map_append]
        rfl
      · refine w_sk hl ?_ S
        rw [e, if_pos q, List.append_nil]
  · rintro D acc H hl rfl S
    have e : (tl y).take y.cps.size = tl y := List.take_of_length_le (by simp)
    rw [e] at S
    exact k D H S
theorem joinL_nil : ∀ l : List (List Nat), TL.joinL [] l = l.flatten
  | [] => rfl
  | [p] => by simp [TL.joinL]
  | p :: q :: r => by
    show p ++ ([] ++ TL.joinL [] (q :: r)) = p ++ (q :: r).flatten
    rw [joinL_nil (q :: r)]
    rfl
theorem chrs_map (cs : List Nat) : chrs cs = (cs.map fun c => (⟨#[c]⟩ : Str)).map V.str := by
  unfold chrs
  rw [List.map_map]
  rfl
theorem flat_one : ∀ cs : List Nat, (cs.map fun c => [c]).flatten = cs
  | [] => rfl
  | c :: r => by
    show c :: (r.map fun c => [c]).flatten = c :: r
    rw [flat_one r]
theorem join_chrs (cs : List Nat) : Txt.join (Str.ofString "") (cs.map fun c => (⟨#[c]⟩ : Str)) = SX.S cs := by
  refine QBox.out ?_
  simp (disch :=
  refine qkeep ?_
  with_unfolding_all
  refine str_ext ?_
  have e1 : tl (Txt.join (Str.ofString "") (cs.map fun c => (⟨#[c]⟩ : Str))) = TL.joinL (tl (Str.ofString "")) ((cs.map fun c => (⟨#[c]⟩ : Str)).map tl) :=
    (congrArg tl (TL.join_eq (Str.ofString "") (cs.map fun c => (⟨#[c]⟩ : Str)))).trans (TL.tl_join _ _)
  rw [e1, show tl (Str.ofString "") = [] by decide +kernel, joinL_nil, List.map_map]
  exact flat_one cs
  ) only [↓qboxT]

theorem sum_chrs (cs : List Nat) : ((cs.map fun c => (⟨#[c]⟩ : Str)).map (·.length)).sum = cs.length := by
  induction cs with
  | nil => rfl
  | cons c r ih =>
    show 1 + ((r.map fun c => (⟨#[c]⟩ : Str)).map (·.length)).sum = r.length + 1
    rw [ih]
    omega
/-- "".join of signs -/
theorem w_joinC {cs : List Nat} (h : H a = some (.lst (chrs cs))) (hl : cs.length ≤ 1000000) (k : Q (.str (SX.S cs)) H) : rJoinU K (.str (Str.ofString "")) [.ref a] H Q := by
  refine QBox.out ?_
  simp (disch :=
  refine qkeep ?_
  with_unfolding_all
  refine ⟨_, a, cs.map fun c => (⟨#[c]⟩ : Str), rfl, rfl, .inl (.of (by rw [← chrs_map]; exact h)), ?_, by rw [join_chrs]; exact k⟩
  rw [sum_chrs]
  have e : (Str.ofString "").length = 0 := by decide +kernel
  rw [e]
  omega
  ) only [↓qboxT]

/-- a text of signs below 0x110000 -/
structure TxOk (z : Str) (n : Nat) : Prop where
  len : z.length ≤ n
  sg : ∀ c ∈ tl z, c < 1114112
theorem TxOk.app {y z : Str} {m n : Nat} (a : TxOk y m) (b : TxOk z n) : TxOk (y ++ z) (m + n) := by
  refine QBox.out ?_
  simp (disch :=
  refine qkeep ?_
  with_unfolding_all
  refine ⟨?_, fun c hc => ?_⟩
  · have := tl_len (y ++ z)
    rw [tl_app, List.length_append, tl_len, tl_len] at this
    have := a.len
    have := b.len
    omega
  · rw [tl_app] at hc
    rcases List.mem_append.mp hc with h | h
    · exact a.sg c h
    · exact b.sg c h
  ) only [↓qboxT]

theorem TxOk.mono {y : Str} {m n : Nat} (a : TxOk y m) (h : m ≤ n) : TxOk y n := ⟨Nat.le_trans a.len h, a.sg⟩
theorem TxOk.to {y : Str} {m : Nat} {i : Int} (a : TxOk y m) (h : 0 ≤ i) : TxOk (Txt.slice y none (some i)) m := by
  have e := SX.slice_to (a := tl y) h
  rw [SX.S_tl] at e
  rw [e]
  refine ⟨?_, fun c hc => a.sg c (List.mem_of_mem_take hc)⟩
  rw [SX.S_len, List.length_take, tl_len]
  have := a.len
  omega
theorem TxOk.from {y : Str} {m : Nat} {i : Int} (a : TxOk y m) (h : 0 ≤ i) : TxOk (Txt.slice y (some i) none) m := by
  refine QBox.out ?_
  simp (disch :=
  refine qkeep ?_
  with_unfolding_all
  have e := SX.slice_from (a := tl y) h
  rw [SX.S_tl] at e
  rw [e]
  refine ⟨?_, fun c hc => a.sg c (List.mem_of_mem_drop hc)⟩
  rw [SX.S_len, List.length_drop, tl_len]
  have := a.len
  omega
  ) only [↓qboxT]

/-- a written text, by computation -/
def txC (z : Str) (n : Nat) : Bool := decide (z.length ≤ n) && (tl z).all fun c => decide (c < 1114112)
theorem txOk_by {z : Str} {n : Nat} (h : txC z n = true) : TxOk z n := by
  unfold txC at h
  rw [Bool.and_eq_true, decide_eq_true_eq, List.all_eq_true] at h
  exact ⟨h.1, fun c hc => of_decide_eq_true (h.2 c hc)⟩
theorem TxOk.one {c : Nat} (h : c < 1114112) : TxOk ⟨#[c]⟩ 1 := ⟨Nat.le_refl 1, fun d hd => by
  have e : d = c := by simpa using hd
  rw [e]
  exact h⟩
theorem TxOk.S {cs : List Nat} {n : Nat} (hl : cs.length ≤ n) (h : ∀ c ∈ cs, c < 1114112) : TxOk (SX.S cs) n := ⟨by rw [SX.S_len]; exact hl, h⟩
theorem w_joinT {sep : Str} {ws : List Str} (h : H a = some (.lst (ws.map V.str))) (hl : (ws.map (·.length)).sum + ws.length * sep.length ≤ 16777216) (k : Q (.str (Txt.join sep ws)) H) : rJoinU K (.str sep) [.ref a] H Q :=
  ⟨_, a, ws, rfl, rfl, .inl (.of h), hl, k⟩
theorem joinL_len (z : List Nat) : ∀ ps : List (List Nat), (TL.joinL z ps).length ≤ (ps.map (·.length)).sum + ps.length * z.length
  | [] => Nat.zero_le _
  | [p] => by simp [TL.joinL]
  | p :: q :: r => by
    have ih := joinL_len z (q :: r)
    show (p ++ (z ++ TL.joinL z (q :: r))).length ≤ p.length + ((q :: r).map (·.length)).sum + ((q :: r).length + 1) * z.length
    rw [List.length_append, List.length_append, Nat.succ_mul]
    omega
theorem join_len (z : Str) (ws : List Str) : (Txt.join z ws).length ≤ (ws.map (·.length)).sum + ws.length * z.length := by
  refine QBox.out ?_
  simp (disch :=
  refine qkeep ?_
  with_unfolding_all
  have e1 : tl (Txt.join z ws) = TL.joinL (tl z) (ws.map tl) := (congrArg tl (TL.join_eq z ws)).trans (TL.tl_join _ _)
  have h := joinL_len (tl z) (ws.map tl)
  rw [← e1, tl_len, List.length_map, tl_len, List.map_map] at h
  have e : ((fun x : List Nat => x.length) ∘ tl) = fun w : Str => w.length := funext tl_len
  rw [e] at h
  exact h
  ) only [↓qboxT]

theorem sum_le {n : Nat} : ∀ {ws : List Str}, (∀ z ∈ ws, z.length ≤ n) → (ws.map (·.length)).sum ≤ ws.length * n
  | [], _ => Nat.zero_le _
  | w :: ws, h => by
    have := sum_le (ws := ws) fun z hz => h z (List.mem_cons_of_mem _ hz)
    have h2 := h w List.mem_cons_self
    show w.length + (ws.map (·.length)).sum ≤ (ws.length + 1) * n
    rw [Nat.succ_mul]
    omega
end
end Q
namespace Q
open PySem PySem.Spec PyProof.Rows L2 L2H
end Q
namespace Q
open PySem PySem.Spec PyProof.Rows L2
/-- a name with its worth and mark -/
abbrev Cell := Str × Int × Bool
structure PT where
  up : Option Nat
  cells : List Cell
  age : Int
  shut : Bool
  loose : Bool
def cellOf : List Cell → Str → Option Cell
  | [], _ => none
  | c :: cs, n => if c.1 = n then some c else cellOf cs n
/-- the elders end -/
inductive Ends (es : List (Option Nat)) : Nat → Option Nat → Prop
  | none : Ends es 0 none
  | up {t n : Nat} {e : Option Nat} : es[t]? = some e → Ends es n e → Ends es (n + 1) (some t)
abbrev ups (ts : List PT) : List (Option Nat) := ts.map PT.up
/-- the nearest that has the name, from t upward -/
inductive HoldR (ts : List PT) (n : Str) : Option Nat → Option (Nat × Cell) → Prop
  | none : HoldR ts n none none
  | here {t : Nat} {th : PT} {c : Cell} : ts[t]? = some th → cellOf th.cells n = some c → HoldR ts n (some t) (some (t, c))
  | up {t : Nat} {th : PT} {r : Option (Nat × Cell)} : ts[t]? = some th → cellOf th.cells n = none → HoldR ts n th.up r → HoldR ts n (some t) r
/-- is t among e and its elders? -/
inductive RingR (es : List (Option Nat)) (t : Nat) : Option Nat → Bool → Prop
  | none : RingR es t none false
  | here : RingR es t (some t) true
  | up {u : Nat} {e : Option Nat} {b : Bool} : u ≠ t → es[u]? = some e → RingR es t e b → RingR es t (some u) b
inductive Deed
  | make (e : Option Int)
  | put (t : Int) (n : Str) (w : Int)
  | ask (t : Int) (n : Str)
  | out (t : Int) (n : Str)
  | fix (t : Int) (n : Str)
  | turn (t : Int) (e : Option Int)
  | shut (t : Int)
  | gather (t : Int)
/-- a number of a thing, None -/
def okE (k : Nat) (e : Option Int) : Bool := match e with
  | none => true
  | some i => decide (0 ≤ i) && decide (i < (k : Int))
def Deed.there (k : Nat) : Deed → Bool
  | .make e => okE k e
  | .put t _ _ | .ask t _ | .out t _ | .fix t _ | .shut t | .gather t => okE k (some t)
  | .turn t e => okE k (some t) && okE k e
def PT.set (th : PT) (cs : List Cell) : PT := { th with cells := cs }
def Deed.at_ : Deed → Int
  | .make _ => 0
  | .put t _ _ | .ask t _ | .out t _ | .fix t _ | .shut t | .gather t | .turn t _ => t
structure WF (ts : List PT) (N : Nat) : Prop where
  len : ts.length ≤ N
  cells : ∀ (t : Nat) (th : PT), ts[t]? = some th → th.cells.length ≤ N
  nd : ∀ (t : Nat) (th : PT), ts[t]? = some th → (th.cells.map (·.1)).Nodup
  lt : ∀ (t : Nat) (th : PT) (e : Nat), ts[t]? = some th → th.up = some e → e < ts.length
  ends : ∀ t, t < ts.length → ∃ n, Ends (ups ts) n (some t)
theorem Ends.app {es fs : List (Option Nat)} {n : Nat} {e : Option Nat} (h : Ends es n e) : Ends (es ++ fs) n e := by
  induction h with
  | none => exact .none
  | up a _ ih => exact .up (by rw [List.getElem?_append_left (List.getElem?_eq_some_iff.mp a).1]; exact a) ih
theorem Ends.turn {es : List (Option Nat)} {t n : Nat} {e x : Option Nat} (h : Ends es n x) (he : ∃ m, Ends (es.set t e) m e) : ∃ m, Ends (es.set t e) m x := by
  refine QBox.out ?_
  simp (disch :=
  refine qkeep ?_
  with_unfolding_all
  induction h with
  | none => exact ⟨0, .none⟩
  | @up u k y a b ih =>
    by_cases hu : u = t
    · subst hu
      obtain ⟨m, hm⟩ := he
      exact ⟨m + 1, .up (List.getElem?_set_self (List.getElem?_eq_some_iff.mp a).1) hm⟩
    · obtain ⟨m, hm⟩ := ih
      exact ⟨m + 1, .up (by rw [List.getElem?_set_ne (Ne.symm hu)]; exact a) hm⟩
  ) only [↓qboxT]

theorem RingR.ex {es : List (Option Nat)} {t n : Nat} {x : Option Nat} (h : Ends es n x) : ∃ b, RingR es t x b := by
  induction h with
  | none => exact ⟨_, .none⟩
  | @up u k y a b ih =>
    by_cases hu : u = t
    · subst hu
      exact ⟨_, .here⟩
    · obtain ⟨r, hr⟩ := ih
      exact ⟨r, .up hu a hr⟩
theorem HoldR.ex {ts : List PT} {nm : Str} {n : Nat} {x : Option Nat} (h : Ends (ups ts) n x) : ∃ r, HoldR ts nm x r := by
  refine QBox.out ?_
  simp (disch :=
  refine qkeep ?_
  with_unfolding_all
  generalize he : ups ts = es at h
  induction h with
  | none => exact ⟨_, .none⟩
  | @up u k y a b ih =>
    subst he
    rw [List.getElem?_map] at a
    obtain ⟨th, ht, hu⟩ := Option.map_eq_some_iff.mp a
    cases hc : cellOf th.cells nm with
    | some c => exact ⟨_, .here ht hc⟩
    | none =>
      obtain ⟨r, hr⟩ := ih
      exact ⟨r, .up ht hc (hu ▸ hr)⟩
  ) only [↓qboxT]

theorem WF.mono {ts : List PT} {N M : Nat} (w : WF ts N) (h : N ≤ M) : WF ts M := ⟨Nat.le_trans w.len h, fun t th e => Nat.le_trans (w.cells t th e) h, w.nd, w.lt, w.ends⟩
theorem putK_new {kvs : List (Key × V)} {q : Key} (v : V) (h : valV kvs q = none) : putK kvs q v = kvs ++ [(q, v)] := by
  unfold putK
  rw [if_neg]
  intro e
  obtain ⟨kv, hm, hk⟩ := List.any_eq_true.mp e
  unfold valV at h
  have := List.find?_eq_none.mp (Option.map_eq_none_iff.mp h) kv hm
  exact this hk
end Q
namespace Q
open PySem PySem.Spec PyProof.Rows L2
section
variable {α : Type} {f : α → Res} {l : List α} {x y : α} {i : Nat} {R : List Res} {H : Hp}
/-- one part for each of the list -/
def Star (f : α → Res) (l : List α) : Res := All (l.map f)
theorem perm_mid {a : Res} {As Bs : List Res} : (As ++ a :: Bs).Perm (a :: (As ++ Bs)) := List.perm_middle
theorem Sat.fold {As : List Res} {A : Res} : Sat H (A :: All As :: R) ↔ Sat H (A :: (As ++ R)) := by
  refine QBox.out ?_
  simp (disch :=
  refine qkeep ?_
  with_unfolding_all
  constructor
  · intro S
    have S1 : Sat H (All As :: A :: R) := S.perm (List.Perm.swap _ _ _)
    exact (Sat.all.mp S1).perm perm_mid
  · intro S
    have S1 : Sat H (As ++ A :: R) := S.perm perm_mid.symm
    exact (Sat.all.mpr S1).perm (List.Perm.swap _ _ _)
  ) only [↓qboxT]

theorem erase_perm : ∀ {l : List α} {i : Nat} {x : α}, l[i]? = some x → l.Perm (x :: l.eraseIdx i)
  | y :: l, 0, x, h => by
    cases h
    exact .refl _
  | y :: l, i + 1, x, h => ((erase_perm (l := l) (i := i) h).cons y).trans (List.Perm.swap _ _ _)
theorem set_perm' : ∀ {l : List α} {i : Nat} {y : α}, i < l.length → (l.set i y).Perm (y :: l.eraseIdx i)
  | z :: l, 0, y, _ => .refl _
  | z :: l, i + 1, y, h => ((set_perm' (l := l) (i := i) (y := y) (Nat.lt_of_succ_lt_succ h)).cons z).trans (List.Perm.swap _ _ _)
theorem Sat.out (S : Sat H (Star f l :: R)) (h : l[i]? = some x) : Sat H (f x :: Star f (l.eraseIdx i) :: R) :=
  Sat.fold.mpr ((Sat.all.mp S).perm (((erase_perm h).map f).append_right R))
theorem Sat.back (S : Sat H (f y :: Star f (l.eraseIdx i) :: R)) (h : i < l.length) : Sat H (Star f (l.set i y) :: R) :=
  Sat.all.mpr ((Sat.fold.mp S).perm (((set_perm' h).map f).symm.append_right R))
theorem Sat.star0 (S : Sat H R) : Sat H (Star f [] :: R) := Sat.all.mpr S
theorem Sat.front (S : Sat H (f x :: Star f l :: R)) : Sat H (Star f (x :: l) :: R) := Sat.all.mpr (Sat.fold.mp S)
end
def ofN : Option Nat → V
  | none => .non
  | some n => .int (n : Int)
def ofO : Option Int → V
  | none => .non
  | some n => .int n
/-- a dict of worths and marks -/
def TabA (a : Addr) (cs : List Cell) : Res := ex fun vs : List (Cell × Addr) => All [pure' (vs.map (·.1) = cs), pts a (.dK (vs.map fun v => (Sum.inr v.1.1, V.ref v.2))), Star (fun v : Cell × Addr => sh v.2 (.tup [.int v.1.2.1, .bl v.1.2.2])) vs]
abbrev PlF (e t a c : Addr) : List (Str × V) := [("elders", .ref e), ("tables", .ref t), ("ages", .ref a), ("closed", .ref c)]
def PlainA (C h : Addr) (ts : List PT) : Res := ex fun dx => ex fun e => ex fun t => ex fun a => ex fun c => ex fun ps : List (Addr × PT) =>
  All [pure' (ps.map (·.2) = ts), pts h (.ins C dx (PlF e t a c)), pts e (.lst (ps.map fun p => ofN p.2.up)), pts t (.lst (ps.map fun p => .ref p.1)), pts a (.lst (ps.map fun p => .int p.2.age)), pts c (.lst (ps.map fun p => .bl p.2.shut)),
    Star (fun p : Addr × PT => TabA p.1 p.2.cells) ps]
theorem PlainA.open {C h : Addr} {ts : List PT} {R : List Res} {H : Hp} (S : Sat H (PlainA C h ts :: R)) : ∃ dx e t a c, ∃ ps : List (Addr × PT), ps.map (·.2) = ts ∧
    Sat H (pts h (.ins C dx (PlF e t a c)) :: pts e (.lst (ps.map fun p => ofN p.2.up)) :: pts t (.lst (ps.map fun p => .ref p.1)) :: pts a (.lst (ps.map fun p => .int p.2.age)) :: pts c (.lst (ps.map fun p => .bl p.2.shut)) :: Star (fun p : Addr × PT => TabA p.1 p.2.cells) ps :: R) := by
  obtain ⟨dx, S⟩ := Sat.ex.mp S
  obtain ⟨e, S⟩ := Sat.ex.mp S
  obtain ⟨t, S⟩ := Sat.ex.mp S
  obtain ⟨a, S⟩ := Sat.ex.mp S
  obtain ⟨c, S⟩ := Sat.ex.mp S
  obtain ⟨ps, S⟩ := Sat.ex.mp S
  obtain ⟨h, S⟩ := Sat.pure.mp (Sat.all.mp S)
  exact ⟨dx, e, t, a, c, ps, h, S⟩
theorem PlainA.close {C h dx e t a c : Addr} {ts : List PT} {ps : List (Addr × PT)} {R : List Res} {H : Hp} (hp : ps.map (·.2) = ts)
    (S : Sat H (pts h (.ins C dx (PlF e t a c)) :: pts e (.lst (ps.map fun p => ofN p.2.up)) :: pts t (.lst (ps.map fun p => .ref p.1)) :: pts a (.lst (ps.map fun p => .int p.2.age)) :: pts c (.lst (ps.map fun p => .bl p.2.shut)) :: Star (fun p : Addr × PT => TabA p.1 p.2.cells) ps :: R)) : Sat H (PlainA C h ts :: R) :=
  Sat.ex.mpr ⟨dx, Sat.ex.mpr ⟨e, Sat.ex.mpr ⟨t, Sat.ex.mpr ⟨a, Sat.ex.mpr ⟨c, Sat.ex.mpr ⟨ps, Sat.all.mpr (Sat.pure.mpr ⟨hp, S⟩)⟩⟩⟩⟩⟩⟩
theorem TabA.open {a : Addr} {cs : List Cell} {R : List Res} {H : Hp} (S : Sat H (TabA a cs :: R)) : ∃ vs : List (Cell × Addr), vs.map (·.1) = cs ∧ Sat H (pts a (.dK (vs.map fun v => (Sum.inr v.1.1, V.ref v.2))) :: Star (fun v : Cell × Addr => sh v.2 (.tup [.int v.1.2.1, .bl v.1.2.2])) vs :: R) := by
  obtain ⟨vs, S⟩ := Sat.ex.mp S
  obtain ⟨h, S⟩ := Sat.pure.mp (Sat.all.mp S)
  exact ⟨vs, h, S⟩
theorem TabA.close {a : Addr} {cs : List Cell} {vs : List (Cell × Addr)} {R : List Res} {H : Hp} (h : vs.map (·.1) = cs) (S : Sat H (pts a (.dK (vs.map fun v => (Sum.inr v.1.1, V.ref v.2))) :: Star (fun v : Cell × Addr => sh v.2 (.tup [.int v.1.2.1, .bl v.1.2.2])) vs :: R)) : Sat H (TabA a cs :: R) :=
  Sat.ex.mpr ⟨vs, Sat.all.mpr (Sat.pure.mpr ⟨h, S⟩)⟩
theorem map_at {α β : Type} {f : α → β} {l : List α} {i : Nat} {x : α} (h : l[i]? = some x) : (l.map f)[i]? = some (f x) := by rw [List.getElem?_map, h]; rfl
theorem set_same {α : Type} {l : List α} {i : Nat} {x : α} (h : l[i]? = some x) : l.set i x = l := by
  refine List.ext_getElem? fun j => ?_
  by_cases hj : i = j
  · subst hj
    rw [List.getElem?_set_self (List.getElem?_eq_some_iff.mp h).1, h]
  · rw [List.getElem?_set_ne hj]
theorem at_map {α β : Type} {f : α → β} {l : List α} {i : Nat} {y : β} (h : (l.map f)[i]? = some y) : ∃ x, l[i]? = some x ∧ f x = y := by
  rw [List.getElem?_map] at h
  exact Option.map_eq_some_iff.mp h
/-- a plain house with one thing's table at hand -/
theorem PlainA.at {C h : Addr} {ts : List PT} {R : List Res} {H : Hp} {n : Nat} {th : PT} (S : Sat H (PlainA C h ts :: R)) (ht : ts[n]? = some th) : ∃ dx e t a c tab, ∃ ps : List (Addr × PT), ∃ vs : List (Cell × Addr), ps.map (·.2) = ts ∧ ps[n]? = some (tab, th) ∧ vs.map (·.1) = th.cells ∧
    Sat H (pts h (.ins C dx (PlF e t a c)) :: pts e (.lst (ps.map fun p => ofN p.2.up)) :: pts t (.lst (ps.map fun p => .ref p.1)) :: pts a (.lst (ps.map fun p => .int p.2.age)) :: pts c (.lst (ps.map fun p => .bl p.2.shut)) ::
      pts tab (.dK (vs.map fun v => (Sum.inr v.1.1, V.ref v.2))) :: Star (fun v : Cell × Addr => sh v.2 (.tup [.int v.1.2.1, .bl v.1.2.2])) vs :: Star (fun p : Addr × PT => TabA p.1 p.2.cells) (ps.eraseIdx n) :: R) := by
  obtain ⟨dx, e, t, a, c, ps, hp, S⟩ := PlainA.open S
  obtain ⟨⟨tab, th'⟩, hn, e2⟩ := at_map (hp ▸ ht)
  cases e2
  have S1 := (S.pick (A := Star (fun p : Addr × PT => TabA p.1 p.2.cells) ps) (.there (.there (.there (.there (.there .here)))))).out hn
  obtain ⟨vs, hv, S2⟩ := TabA.open S1
  exact ⟨dx, e, t, a, c, tab, ps, vs, hp, hn, hv, S2.perm (List.Perm.append_right R (List.perm_append_comm (l₁ := [_, _, _]) (l₂ := [_, _, _, _, _])))⟩
theorem PlainA.back {C h dx e t a c tab : Addr} {ts : List PT} {ps : List (Addr × PT)} {vs : List (Cell × Addr)} {R : List Res} {H : Hp} {n : Nat} {th th' : PT} {us as cs : List V} (hp : ps.map (·.2) = ts) (hn : ps[n]? = some (tab, th))
    (S : Sat H (pts h (.ins C dx (PlF e t a c)) :: pts e (.lst us) :: pts t (.lst (ps.map fun p => .ref p.1)) :: pts a (.lst as) :: pts c (.lst cs) ::
      pts tab (.dK (vs.map fun v => (Sum.inr v.1.1, V.ref v.2))) :: Star (fun v : Cell × Addr => sh v.2 (.tup [.int v.1.2.1, .bl v.1.2.2])) vs :: Star (fun p : Addr × PT => TabA p.1 p.2.cells) (ps.eraseIdx n) :: R))
    (hv : vs.map (·.1) = th'.cells) (hu : us = (ps.map fun p => ofN p.2.up).set n (ofN th'.up)) (ha : as = (ps.map fun p => V.int p.2.age).set n (.int th'.age)) (hc : cs = (ps.map fun p => V.bl p.2.shut).set n (.bl th'.shut)) :
    Sat H (PlainA C h (ts.set n th') :: R) := by
  have hl := (List.getElem?_eq_some_iff.mp hn).1
  refine PlainA.close (dx := dx) (e := e) (t := t) (a := a) (c := c) (ps := ps.set n (tab, th')) (by rw [List.map_set, hp]) ?_
  rw [List.map_set, List.map_set, List.map_set, List.map_set, ← hu, ← ha, ← hc, set_same (map_at (f := fun p : Addr × PT => V.ref p.1) hn)]
  have S1 : Sat H (pts tab (.dK (vs.map fun v => (Sum.inr v.1.1, V.ref v.2))) :: Star (fun v : Cell × Addr => sh v.2 (.tup [.int v.1.2.1, .bl v.1.2.2])) vs :: Star (fun p : Addr × PT => TabA p.1 p.2.cells) (ps.eraseIdx n) ::
      pts h (.ins C dx (PlF e t a c)) :: pts e (.lst us) :: pts t (.lst (ps.map fun p => .ref p.1)) :: pts a (.lst as) :: pts c (.lst cs) :: R) :=
    S.perm (List.Perm.append_right R (List.perm_append_comm (l₁ := [_, _, _, _, _]) (l₂ := [_, _, _])))
  have S2 := (TabA.close hv S1).back (f := fun p : Addr × PT => TabA p.1 p.2.cells) (y := (tab, th')) hl
  exact S2.perm (List.Perm.append_right R (List.perm_append_comm (l₁ := [_]) (l₂ := [_, _, _, _, _])))
/-- nothing changed -/
theorem PlainA.same {C h dx e t a c tab : Addr} {ts : List PT} {ps : List (Addr × PT)} {vs : List (Cell × Addr)} {R : List Res} {H : Hp} {n : Nat} {th : PT} (hp : ps.map (·.2) = ts) (hn : ps[n]? = some (tab, th)) (hv : vs.map (·.1) = th.cells)
    (S : Sat H (pts h (.ins C dx (PlF e t a c)) :: pts e (.lst (ps.map fun p => ofN p.2.up)) :: pts t (.lst (ps.map fun p => .ref p.1)) :: pts a (.lst (ps.map fun p => .int p.2.age)) :: pts c (.lst (ps.map fun p => .bl p.2.shut)) ::
      pts tab (.dK (vs.map fun v => (Sum.inr v.1.1, V.ref v.2))) :: Star (fun v : Cell × Addr => sh v.2 (.tup [.int v.1.2.1, .bl v.1.2.2])) vs :: Star (fun p : Addr × PT => TabA p.1 p.2.cells) (ps.eraseIdx n) :: R)) : Sat H (PlainA C h ts :: R) := by
  have ht : ts[n]? = some th := hp ▸ map_at hn
  have q := PlainA.back (th' := th) hp hn S hv (set_same (map_at (f := fun p : Addr × PT => ofN p.2.up) hn)).symm (set_same (map_at (f := fun p : Addr × PT => V.int p.2.age) hn)).symm (set_same (map_at (f := fun p : Addr × PT => V.bl p.2.shut) hn)).symm
  rw [set_same ht] at q
  exact q
/-- a method of it is called -/
theorem PlainA.call {C h : Addr} {ts : List PT} {As R : List Res} {H : Hp} {m : Str} {sp : Sp} {E : XK} {tr : TA} {σ : L2.St} {Z : VK} (S : Sat H As) (pk : Pick (PlainA C h ts) As R) (k : tr σ H fun vs H2 => sp (.ref h :: (vs ++ [])) H2 Z E)
    (hm : ∀ e t a c, (PlF e t a c).lookup m = none := by exact fun _ _ _ _ => rfl) : kMeth C m sp E tr σ Z (.ref h) H := by
  obtain ⟨dx, e, t, a, c, ps, hp, S⟩ := PlainA.open (S.pick pk)
  exact w_methV S.read (hm e t a c) k
abbrev tripOf (v : Cell × Addr) : Res := sh v.2 (.tup [.str v.1.1, .int v.1.2.1, .bl v.1.2.2])
def NamesP (acc : List V) (cs : List Cell) : Res := ex fun as : List (Cell × Addr) => All [pure' (acc = as.map (fun v => V.ref v.2) ∧ as.map (·.1) = cs), Star tripOf as]
theorem NamesP.none {H : Hp} {R : List Res} (S : Sat H R) : Sat H (NamesP [] [] :: R) := Sat.ex.mpr ⟨[], Sat.all.mpr (Sat.pure.mpr ⟨⟨rfl, rfl⟩, Sat.star0 S⟩)⟩
end Q
namespace Q
open PySem PySem.Spec PyProof.Rows L2
/-- nothing that stands is changed -/
def Ext (H H' : Hp) : Prop := ∀ a o, H a = some o → H' a = some o
theorem Ext.refl {H : Hp} : Ext H H := fun _ _ h => h
theorem Ext.trans {H H' H'' : Hp} (h : Ext H H') (k : Ext H' H'') : Ext H H'' := fun a o e => k a o (h a o e)
theorem Sat.ext {H H' : Hp} {As : List Res} (S : Sat H As) (e : Ext H H') : Sat H' As := Parts.imp S fun _ z a o b q => e a o (z a o b q)
/-- all that stands, read only -/
def Fr (H0 : Hp) : Res := fun h => ∀ a o, H0 a = some o → h a = some (o, true)
theorem Fr.start {H : Hp} : Sat H [Fr H] := by
  refine QBox.out ?_
  simp (disch :=
  refine qkeep ?_
  with_unfolding_all
  refine Parts.cons_iff.mpr ⟨fun a => (H a).map fun o => (o, true), fun a o e => by show (H a).map _ = _; rw [e]; rfl, fun a o b e => ?_, .nil⟩
  cases q : H a with
  | none =>
    have e : (H a).map (fun o => (o, true)) = some (o, b) := e
    rw [q] at e
    cases e
  | some u =>
    have e : (H a).map (fun o => (o, true)) = some (o, b) := e
    rw [q] at e
    cases e
    rfl
  ) only [↓qboxT]

theorem Fr.out {H H0 : Hp} {R : List Res} (S : Sat H (Fr H0 :: R)) : Ext H0 H := fun a o e => by
  obtain ⟨g, z, y, _⟩ := Parts.cons_iff.mp S
  exact y a o true (z a o e)
/-- no address -/
inductive Scal : V → Prop
  | non : Scal .non
  | bl (b : Bool) : Scal (.bl b)
  | int (i : Int) : Scal (.int i)
  | str (x : Str) : Scal (.str x)
/-- alike: the same plain values in lists and tuples of the same kinds -/
inductive Al (H : Hp) : Nat → V → V → Prop
  | sc {n : Nat} {x : V} : Scal x → Al H (n + 1) x x
  | lst {n : Nat} {a b : Addr} {xs ys : List V} : H a = some (.lst xs) → H b = some (.lst ys) → xs.length = ys.length → ys.length ≤ 100000 → (∀ (i : Nat) (x y : V), xs[i]? = some x → ys[i]? = some y → Al H n x y) → Al H (n + 1) (.ref a) (.ref b)
  | tup {n : Nat} {a b : Addr} {xs ys : List V} : H a = some (.tup xs) → H b = some (.tup ys) → xs.length = ys.length → ys.length ≤ 100000 → (∀ (i : Nat) (x y : V), xs[i]? = some x → ys[i]? = some y → Al H n x y) → Al H (n + 1) (.ref a) (.ref b)
theorem Al.ext {H H' : Hp} {n : Nat} {x y : V} (h : Al H n x y) (e : Ext H H') : Al H' n x y := by
  induction h with
  | sc s => exact .sc s
  | lst a b l m _ ih => exact .lst (e _ _ a) (e _ _ b) l m ih
  | tup a b l m _ ih => exact .tup (e _ _ a) (e _ _ b) l m ih
theorem Al.mono {H : Hp} {n m : Nat} {x y : V} (h : Al H n x y) (l : n ≤ m) : Al H m x y := by
  refine QBox.out ?_
  simp (disch :=
  refine qkeep ?_
  with_unfolding_all
  induction h generalizing m with
  | sc s =>
    obtain ⟨k, rfl⟩ : ∃ k, m = k + 1 := ⟨m - 1, by omega⟩
    exact .sc s
  | lst a b q r _ ih =>
    obtain ⟨k, rfl⟩ : ∃ k, m = k + 1 := ⟨m - 1, by omega⟩
    exact .lst a b q r fun i x y h1 h2 => ih i x y h1 h2 (by omega)
  | tup a b q r _ ih =>
    obtain ⟨k, rfl⟩ : ∃ k, m = k + 1 := ⟨m - 1, by omega⟩
    exact .tup a b q r fun i x y h1 h2 => ih i x y h1 h2 (by omega)
  ) only [↓qboxT]

/-- a def that is never called here -/
theorem Df.cl0 {P : Program} {w : World} {K : PySem.W.Frag} {mg : Str → Option Value} {base : Heap} {CX : CXT} {x : Str} {st : Stmt} {ps : List Str} (d : Df K mg x st ps) : Cl P w K mg base CX 0 x (fun _ _ _ _ => False) := by
  obtain ⟨f, fd, F, hm, b⟩ := d.ex
  exact ⟨f, fd, ps, ⟨fun _ _ _ _ h => h.elim, fun _ _ _ _ _ _ _ _ _ _ _ _ _ h => h.elim⟩, hm, F.kp, b⟩
theorem Ext.new {H : Hp} {p : Addr} {o : HO} (h : H p = none) : Ext H (L2.upd H p o) := fun a u e => by
  rw [upd_ne]
  · exact e
  · intro q
    rw [q, h] at e
    cases e
end Q
namespace Q
open PySem PySem.Spec PyProof.Rows L2
inductive Als (H : Hp) (n : Nat) : List V → List V → Prop
  | nil : Als H n [] []
  | cons {x y : V} {xs ys : List V} : Al H n x y → Als H n xs ys → Als H n (x :: xs) (y :: ys)
theorem Als.len {H : Hp} {n : Nat} {xs ys : List V} (h : Als H n xs ys) : xs.length = ys.length := by
  induction h with
  | nil => rfl
  | cons _ _ ih => rw [List.length_cons, List.length_cons, ih]
theorem Als.at {H : Hp} {n : Nat} {xs ys : List V} (h : Als H n xs ys) : ∀ (i : Nat) (x y : V), xs[i]? = some x → ys[i]? = some y → Al H n x y := by
  refine QBox.out ?_
  simp (disch :=
  refine qkeep ?_
  with_unfolding_all
  induction h with
  | nil => exact fun i x y h1 _ => by simp at h1
  | cons a _ ih =>
    intro i x y h1 h2
    cases i with
    | zero => cases h1; cases h2; exact a
    | succ i => exact ih i x y h1 h2
  ) only [↓qboxT]

theorem Al.lst' {H : Hp} {n : Nat} {a b : Addr} {xs ys : List V} (ha : H a = some (.lst xs)) (hb : H b = some (.lst ys)) (h : Als H n xs ys) (hl : ys.length ≤ 100000) : Al H (n + 1) (.ref a) (.ref b) := .lst ha hb h.len hl h.at
theorem Al.tup' {H : Hp} {n : Nat} {a b : Addr} {xs ys : List V} (ha : H a = some (.tup xs)) (hb : H b = some (.tup ys)) (h : Als H n xs ys) (hl : ys.length ≤ 100000) : Al H (n + 1) (.ref a) (.ref b) := .tup ha hb h.len hl h.at
theorem Als.map {H : Hp} {n : Nat} {α : Type} {f g : α → V} : ∀ {l : List α}, (∀ x ∈ l, Al H n (f x) (g x)) → Als H n (l.map f) (l.map g)
  | [], _ => .nil
  | x :: l, h => .cons (h x List.mem_cons_self) (Als.map fun y hy => h y (List.mem_cons_of_mem _ hy))
theorem Als.sc {H : Hp} {n : Nat} : ∀ {xs : List V}, (∀ x ∈ xs, Scal x) → Als H (n + 1) xs xs
  | [], _ => .nil
  | x :: l, h => .cons (.sc (h x List.mem_cons_self)) (Als.sc fun y hy => h y (List.mem_cons_of_mem _ hy))
theorem w_r1N {H : Hp} {R : It → Hp → Prop} {k : Nat} (h1 : k ≤ 100000) (q : R (Itr 0 k) H) : kR1 R [.int (k : Int)] H := w_r1V (by omega) (by omega) q
theorem w_forR {σ : L2.St} {H : Hp} {D : L2.Ends} {g : TG} {tu : TS} {n : Nat} (Pv : Nat → L2.St → Hp → Prop) (h0 : Pv 0 σ H)
    (hs : ∀ i σ H, i < n → Pv i σ H → g (.int (i : Int)) σ H fun σ2 H2 => tu { D with nx := Pv (i + 1), ct := Pv (i + 1), bk := D.nx } σ2 H2) (hd : ∀ σ H, Pv n σ H → D.nx σ H) : kFor g tu D σ (Itr 0 n) H :=
  w_forK walk_range Pv h0 (fun _ _ _ _ _ => trivial) (fun i x σ H H' hi p y => by
    obtain ⟨rfl, rfl⟩ := y
    have e : (0 : Int) + (i : Int) = i := Int.zero_add _
    dsimp only
    rw [e]
    exact hs i σ H' hi p) hd
theorem w_lcR {σ : L2.St} {H : Hp} {g : TG} {t : TT} {te : TE} {Q : VK} {n : Nat} {vs : List Nat} (hn : n ≤ 100000) (Pf : Nat → List V → Prop) (Rf : Nat → List V → List Res) (p0 : Pf 0 []) (S : Sat H (Rf 0 []))
    (hs : ∀ i acc D H, i < n → i < 100000 → acc.length ≤ i → Pf i acc → Sat H (pts D (.lst acc) :: Rf i acc) → g (.int (i : Int)) (wipe σ vs) H fun σ2 H2 => wipe σ2 vs = wipe σ vs ∧ t σ2 H2 fun b H3 => if b = true then te σ2 H3 (kEl D (Pf (i + 1)) (Rf (i + 1)) i) else kSk D (Pf (i + 1)) (Rf (i + 1)) i H3)
    (hd : ∀ D acc H, acc.length ≤ n → Pf n acc → Sat H (pts D (.lst acc) :: Rf n acc) → Q (.ref D) H) : kLc g t te vs σ Q (Itr 0 n) H :=
  w_lcK walk_range hn Pf Rf p0 S (fun _ _ _ _ _ _ => trivial) (fun i acc D x H H' hi hz hl p S y => by
    obtain ⟨rfl, rfl⟩ := y
    have e : (0 : Int) + (i : Int) = i := Int.zero_add _
    dsimp only
    rw [e]
    exact hs i acc D H' hi hz hl p S) hd
end Q
namespace Q
open PySem PySem.Spec PyProof.Rows L2
structure Th where
  p : Addr
  l : Addr
  th : PT
  vs : List (Cell × Addr)
abbrev cellV (c : Cell) : List V := [.str c.1, .int c.2.1, .bl c.2.2]
abbrev cellR (v : Cell × Addr) : Res := pts v.2 (.lst (cellV v.1))
abbrev thV (l : Addr) (th : PT) : List V := [ofN th.up, .ref l, .bl th.shut, .int th.age, .bl th.loose]
def thR (q : Th) : Res := All [pts q.p (.lst (thV q.l q.th)), pts q.l (.lst (q.vs.map fun v => .ref v.2)), Star cellR q.vs]
def OwnA (o : Addr) (ts : List PT) : Res := ex fun qs : List Th => All [pure' (qs.map Th.th = ts ∧ ∀ q ∈ qs, q.vs.map (·.1) = q.th.cells), pts o (.lst (qs.map fun q => .ref q.p)), Star thR qs]
/-- what the heap tells of it -/
structure OwnH (H : Hp) (o : Addr) (ts : List PT) (qs : List Th) : Prop where
  o : H o = some (.lst (qs.map fun q => .ref q.p))
  t : qs.map Th.th = ts
  p : ∀ q ∈ qs, H q.p = some (.lst (thV q.l q.th))
  l : ∀ q ∈ qs, H q.l = some (.lst (q.vs.map fun v => .ref v.2))
  v : ∀ q ∈ qs, q.vs.map (·.1) = q.th.cells
  c : ∀ q ∈ qs, ∀ v ∈ q.vs, H v.2 = some (.lst (cellV v.1))
section
variable {o : Addr} {ts : List PT} {qs : List Th} {R : List Res} {H : Hp} {n : Nat} {th th' : PT} {q : Th}
theorem OwnA.open (S : Sat H (OwnA o ts :: R)) : ∃ qs : List Th, OwnH H o ts qs ∧ Sat H (pts o (.lst (qs.map fun q => .ref q.p)) :: Star thR qs :: R) := by
  refine QBox.out ?_
  simp (disch :=
  refine qkeep ?_
  with_unfolding_all
  obtain ⟨qs, S⟩ := Sat.ex.mp S
  obtain ⟨⟨h1, h2⟩, S⟩ := Sat.pure.mp (Sat.all.mp S)
  replace S : Sat H (pts o (.lst (qs.map fun q => .ref q.p)) :: Star thR qs :: R) := S
  refine ⟨qs, ⟨S.read, h1, fun q hq => ?_, fun q hq => ?_, h2, fun q hq v hv => ?_⟩, S⟩
  all_goals
    obtain ⟨i, hi⟩ := List.mem_iff_getElem?.mp hq
    have S1 : Sat H (pts q.p (.lst (thV q.l q.th)) :: pts q.l (.lst (q.vs.map fun v => .ref v.2)) :: Star cellR q.vs :: _) := Sat.all.mp (S.drop.out hi)
  · exact S1.read
  · exact S1.drop.read
  · obtain ⟨j, hj⟩ := List.mem_iff_getElem?.mp hv
    exact (S1.drop.drop.out hj).read
  ) only [↓qboxT]

theorem OwnA.close (h1 : qs.map Th.th = ts) (h2 : ∀ q ∈ qs, q.vs.map (·.1) = q.th.cells) (S : Sat H (pts o (.lst (qs.map fun q => .ref q.p)) :: Star thR qs :: R)) : Sat H (OwnA o ts :: R) :=
  Sat.ex.mpr ⟨qs, Sat.all.mpr (Sat.pure.mpr ⟨⟨h1, h2⟩, S⟩)⟩
theorem OwnA.h (S : Sat H (OwnA o ts :: R)) : ∃ qs : List Th, OwnH H o ts qs := (OwnA.open S).imp fun _ h => h.1
theorem OwnH.at (h : OwnH H o ts qs) (ht : ts[n]? = some th) : ∃ q, qs[n]? = some q ∧ q.th = th := by
  rw [← h.t] at ht
  exact at_map ht
/-- one thing at hand -/
theorem OwnA.at (S : Sat H (OwnA o ts :: R)) (ht : ts[n]? = some th) : ∃ qs q, OwnH H o ts qs ∧ qs[n]? = some q ∧ q.th = th ∧
    Sat H (pts q.p (.lst (thV q.l th)) :: pts q.l (.lst (q.vs.map fun v => .ref v.2)) :: Star cellR q.vs :: pts o (.lst (qs.map fun q => .ref q.p)) :: Star thR (qs.eraseIdx n) :: R) := by
  obtain ⟨qs, h, S⟩ := OwnA.open S
  obtain ⟨q, hq, e⟩ := h.at ht
  have S1 := (S.perm (List.Perm.swap _ _ _)).out hq
  have S2 : Sat H (pts q.p (.lst (thV q.l q.th)) :: pts q.l (.lst (q.vs.map fun v => .ref v.2)) :: Star cellR q.vs :: Star thR (qs.eraseIdx n) :: pts o (.lst (qs.map fun q => .ref q.p)) :: R) := Sat.all.mp S1
  rw [e] at S2
  exact ⟨qs, q, h, hq, e, S2.perm (.cons _ (.cons _ (.cons _ (.swap _ _ _))))⟩
theorem OwnA.back {qs : List Th} {l' : Addr} {vs' : List (Cell × Addr)} (h1 : qs.map Th.th = ts) (h2 : ∀ q ∈ qs, q.vs.map (·.1) = q.th.cells) (hq : qs[n]? = some q) (hv : vs'.map (·.1) = th'.cells)
    (S : Sat H (pts q.p (.lst (thV l' th')) :: pts l' (.lst (vs'.map fun v => .ref v.2)) :: Star cellR vs' :: pts o (.lst (qs.map fun q => .ref q.p)) :: Star thR (qs.eraseIdx n) :: R)) : Sat H (OwnA o (ts.set n th') :: R) := by
  have hl := (List.getElem?_eq_some_iff.mp hq).1
  have S1 : Sat H (pts q.p (.lst (thV l' th')) :: pts l' (.lst (vs'.map fun v => .ref v.2)) :: Star cellR vs' :: Star thR (qs.eraseIdx n) :: pts o (.lst (qs.map fun q => .ref q.p)) :: R) := S.perm (.cons _ (.cons _ (.cons _ (.swap _ _ _))))
  have S2 : Sat H (thR ⟨q.p, l', th', vs'⟩ :: Star thR (qs.eraseIdx n) :: pts o (.lst (qs.map fun q => .ref q.p)) :: R) := Sat.all.mpr S1
  have S3 := S2.back hl
  refine OwnA.close (qs := qs.set n ⟨q.p, l', th', vs'⟩) (by rw [List.map_set, h1]) (fun x hx => ?_) ?_
  · rcases List.mem_or_eq_of_mem_set hx with h | rfl
    · exact h2 x h
    · exact hv
  · rw [List.map_set, set_same (map_at (f := fun q : Th => V.ref q.p) hq)]
    exact S3.perm (.swap _ _ _)
end
def wd : Deed → Str
  | .make _ => "make"
  | .put _ _ _ => "put"
  | .ask _ _ => "ask"
  | .out _ _ => "out"
  | .fix _ _ => "fix"
  | .turn _ _ => "turn"
  | .shut _ => "shut"
  | .gather _ => "gather"
theorem OwnH.of {o : Addr} {ts : List PT} {qs : List Th} {R : List Res} {H : Hp} (h1 : qs.map Th.th = ts) (h2 : ∀ q ∈ qs, q.vs.map (·.1) = q.th.cells) (S : Sat H (pts o (.lst (qs.map fun q => .ref q.p)) :: Star thR qs :: R)) : OwnH H o ts qs := by
  refine QBox.out ?_
  simp (disch :=
  refine qkeep ?_
  with_unfolding_all
  refine ⟨S.read, h1, fun q hq => ?_, fun q hq => ?_, h2, fun q hq v hv => ?_⟩
  all_goals
    obtain ⟨i, hi⟩ := List.mem_iff_getElem?.mp hq
    have S1 : Sat H (pts q.p (.lst (thV q.l q.th)) :: pts q.l (.lst (q.vs.map fun v => .ref v.2)) :: Star cellR q.vs :: _) := Sat.all.mp (S.drop.out hi)
  · exact S1.read
  · exact S1.drop.read
  · obtain ⟨j, hj⟩ := List.mem_iff_getElem?.mp hv
    exact (S1.drop.drop.out hj).read
  ) only [↓qboxT]

theorem OwnA.len {o : Addr} {ts : List PT} {R : List Res} {H : Hp} (S : Sat H (OwnA o ts :: R)) : ∃ xs : List V, H o = some (.lst xs) ∧ xs.length = ts.length := by
  obtain ⟨qs, oh⟩ := OwnA.h S
  exact ⟨_, oh.o, by rw [← oh.t, List.length_map, List.length_map]⟩
end Q
namespace Q
open PySem PySem.Spec PyProof.Rows L2
section
variable {α : Type} {f : α → HO} {P P' : α → Prop} {acc xs : List V} {R : List Res} {H : Hp} {D D2 p : Addr} {c : α} {n m : Nat} {as : List (α × Addr)}
abbrev shR (f : α → HO) (v : α × Addr) : Res := sh v.2 (f v.1)
abbrev refs (as : List (α × Addr)) : List V := as.map fun v => V.ref v.2
/-- what a list that grows refers to -/
def RefsP (f : α → HO) (P : α → Prop) (acc : List V) : Res := ex fun as : List (α × Addr) => All [pure' (acc = refs as ∧ ∀ v ∈ as, P v.1), Star (shR f) as]
/-- a list of at most n such -/
def RefsA (f : α → HO) (P : α → Prop) (n : Nat) (D : Addr) : Res := ex fun as : List (α × Addr) => All [pure' (as.length ≤ n ∧ ∀ v ∈ as, P v.1), pts D (.lst (refs as)), Star (shR f) as]
theorem RefsP.none (S : Sat H R) : Sat H (RefsP f P [] :: R) := Sat.ex.mpr ⟨[], Sat.all.mpr (Sat.pure.mpr ⟨⟨rfl, fun _ h => absurd h List.not_mem_nil⟩, Sat.star0 S⟩)⟩
theorem RefsA.open (S : Sat H (RefsA f P n D :: R)) : ∃ as : List (α × Addr), as.length ≤ n ∧ (∀ v ∈ as, P v.1) ∧ Sat H (pts D (.lst (refs as)) :: Star (shR f) as :: R) := by
  obtain ⟨as, S⟩ := Sat.ex.mp S
  obtain ⟨⟨h1, h2⟩, S⟩ := Sat.pure.mp (Sat.all.mp S)
  exact ⟨as, h1, h2, S⟩
theorem RefsA.close (h1 : as.length ≤ n) (h2 : ∀ v ∈ as, P v.1) (S : Sat H (pts D (.lst (refs as)) :: Star (shR f) as :: R)) : Sat H (RefsA f P n D :: R) := Sat.ex.mpr ⟨as, Sat.all.mpr (Sat.pure.mpr ⟨⟨h1, h2⟩, S⟩)⟩
theorem RefsA.imp (S : Sat H (RefsA f P n D :: R)) (h : ∀ x, P x → P' x) (hn : n ≤ m) : Sat H (RefsA f P' m D :: R) := by
  obtain ⟨as, h1, h2, S⟩ := RefsA.open S
  exact RefsA.close (Nat.le_trans h1 hn) (fun v hv => h _ (h2 v hv)) S
theorem RefsA.nil (S : Sat H (pts D (.lst []) :: R)) : Sat H (RefsA f P 0 D :: R) := RefsA.close (as := []) (Nat.le_refl _) (fun _ h => absurd h List.not_mem_nil) ((Sat.star0 (f := shR f) S).perm (List.Perm.swap _ _ _))
end
section
variable {α : Type} {f : α → HO} {P : α → Prop} {cs ds : List α} {R : List Res} {H : Hp} {D p : Addr} {c : α} {n : Nat} {as : List (α × Addr)}
/-- a list of just these -/
def RefsL (f : α → HO) (D : Addr) (cs : List α) : Res := ex fun as : List (α × Addr) => All [pure' (as.map (·.1) = cs), pts D (.lst (refs as)), Star (shR f) as]
theorem RefsL.open (S : Sat H (RefsL f D cs :: R)) : ∃ as : List (α × Addr), as.map (·.1) = cs ∧ Sat H (pts D (.lst (refs as)) :: Star (shR f) as :: R) := by
  obtain ⟨as, S⟩ := Sat.ex.mp S
  obtain ⟨h, S⟩ := Sat.pure.mp (Sat.all.mp S)
  exact ⟨as, h, S⟩
theorem RefsL.close (h : as.map (·.1) = cs) (S : Sat H (pts D (.lst (refs as)) :: Star (shR f) as :: R)) : Sat H (RefsL f D cs :: R) := Sat.ex.mpr ⟨as, Sat.all.mpr (Sat.pure.mpr ⟨h, S⟩)⟩
theorem RefsL.nil (S : Sat H (pts D (.lst []) :: R)) : Sat H (RefsL f D [] :: R) := RefsL.close (as := []) rfl ((Sat.star0 (f := shR f) S).perm (List.Perm.swap _ _ _))
theorem RefsL.len (S : Sat H (RefsL f D cs :: R)) : ∃ xs : List V, H D = some (.lst xs) ∧ xs.length = cs.length := by
  obtain ⟨as, h, S⟩ := RefsL.open S
  exact ⟨_, S.read, by rw [← h]; simp [refs]⟩
/-- the i-th of a walk -/
theorem RefsL.at {i : Nat} {x : V} (a1 : as.map (·.1) = cs) (hx : (refs as)[i]? = some x) : ∃ c p, as[i]? = some (c, p) ∧ cs[i]? = some c ∧ x = .ref p := by
  obtain ⟨⟨c, p⟩, h1, rfl⟩ := at_map hx
  exact ⟨c, p, h1, by rw [← a1]; exact map_at h1, rfl⟩
end
def okS (x : Str) : Prop := ∀ c ∈ tl x, c < 1114112
theorem okS.str {x : Str} (h : okS x) : PyData.canLay0 (.str x) = true := by
  show x.cps.all (· < 0x110000) = true
  rw [← Array.all_toList, List.all_eq_true]
  exact fun c hc => decide_eq_true (h c hc)
theorem RefsL.two {α : Type} {f : α → HO} {c1 c2 : α} {R : List Res} {H : Hp} {D p q : Addr} (S : Sat H (pts D (.lst [.ref p, .ref q]) :: sh q (f c2) :: sh p (f c1) :: R)) : Sat H (RefsL f D [c1, c2] :: R) := by
  refine QBox.out ?_
  simp (disch :=
  refine qkeep ?_
  with_unfolding_all
  refine RefsL.close (as := [(c1, p), (c2, q)]) rfl ?_
  have S2 := Sat.star0 (f := shR f) S
  have S3 : Sat H (shR f (c2, q) :: Star (shR f) [] :: shR f (c1, p) :: pts D (.lst [.ref p, .ref q]) :: R) := S2.to (.cons (.there (.there .here)) (.cons .here (.cons (.there .here) (.cons .here .refl))))
  exact (Sat.front ((Sat.front S3).perm (List.Perm.swap _ _ _))).perm (List.Perm.swap _ _ _)
  ) only [↓qboxT]

end Q
namespace Q
open PySem PySem.Spec PyProof.Rows L2
abbrev TT' := Addr → List V → Prop
/-- the tuples of a heap -/
def TH (H : Hp) : TT' := fun a vs => H a = some (.tup vs)
def TP (g : PH) : TT' := fun a vs => g a = some (.tup vs, true)
/-- a family of keys -/
structure KK (α : Type) where
  nk : α → NestedKey
  inj : ∀ x y, nk x = nk y → x = y
  dp : ∀ x, (nk x).depth ≤ 8
  at_ : TT' → α → V → Prop
  mono : ∀ {T T' : TT'} {x : α} {v : V}, (∀ a vs, T a vs → T' a vs) → at_ T x v → at_ T' x v
  is : ∀ {P : Program} {w : World} {H : Hp} {h : Heap} {x : α} {v : V} {u : Value}, HOk P w H h → at_ (TH H) x v → RelV v u → NestedIs h (nk x) u
  ref : ∀ {T : TT'} {x : α} {v : V}, at_ T x v → ∃ a, v = .ref a
section
variable {α : Type} [DecidableEq α] (κ : KK α) (P : Program) (w : World)
def nO (d : Addr) (o : Obj) : HO := .ext fun h => h.get? d = some o
abbrev upN (q : α × Addr × Value) : NestedKey × Addr × Value := (κ.nk q.1, q.2)
abbrev NPair (T : TT') : List (α × V) → List (α × Addr × Value) → Prop := Paired fun p q => p.1 = q.1 ∧ κ.at_ T q.1 (.ref q.2.1) ∧ RelV p.2 q.2.2
/-- what is known of the dict's object -/
def NOk (T : TT') (d : Addr) (o : Obj) (kvs : List (α × V)) : Prop := kvs.length ≤ sizeLine ∧ (d == sysModules) = false ∧
  ∃ (xs : List (α × Addr × Value)) (es : Array DictEntry) (ep : Nat), NPair κ T kvs xs ∧ o.ExactDict ∧ o.data = .dict es ep ∧ es.toList = (xs.map (upN κ)).map (entryOfKey (nestedKind P w)) ∧ (xs.map (·.1)).Nodup
end
section
variable {α : Type} [DecidableEq α] {κ : KK α} {P : Program} {w : World} {T T' : TT'} {H : Hp} {h : Heap} {d : Addr} {o : Obj} {kvs : List (α × V)}
theorem NOk.mono (n : NOk κ P w T d o kvs) (m : ∀ a vs, T a vs → T' a vs) : NOk κ P w T' d o kvs := by
  obtain ⟨a, b, xs, es, ep, r, e1, e2, e3, e4⟩ := n
  exact ⟨a, b, xs, es, ep, L2.Paired.mapP r fun p q x => ⟨x.1, κ.mono m x.2.1, x.2.2⟩, e1, e2, e3, e4⟩
theorem nO_get (ok : HOk P w H h) (e : H d = some (nO d o)) : h.get? d = some o := (show ObjOk P w H h d (nO d o) from ok d _ e).1
theorem nodup_map {xs : List (α × Addr × Value)} (h : (xs.map (·.1)).Nodup) : ((xs.map (upN κ)).map (·.1)).Nodup := by
  have e : (xs.map (upN κ)).map (·.1) = (xs.map (·.1)).map κ.nk := by rw [List.map_map, List.map_map]; rfl
  rw [e]
  exact List.Pairwise.map _ (fun a b q e => q (κ.inj _ _ e)) h
/-- the same objects, told by the kit -/
theorem NOk.dict (ok : HOk P w H h) (e : H d = some (nO d o)) (n : NOk κ P w (TH H) d o kvs) : kvs.length ≤ sizeLine ∧ (d == sysModules) = false ∧ ∃ xs, NPair κ (TH H) kvs xs ∧ h.DictOfH (nestedKind P w) d (xs.map (upN κ)) := by
  refine QBox.out ?_
  simp (disch :=
  refine qkeep ?_
  with_unfolding_all
  obtain ⟨a, b, xs, es, ep, r, e1, e2, e3, e4⟩ := n
  refine ⟨a, b, xs, r, o, es, ep, nO_get ok e, e1, e2, e3, fun x hx => ?_, nodup_map e4⟩
  obtain ⟨y, hy, rfl⟩ := List.mem_map.mp hx
  have key : ∀ {kvs : List (α × V)} {xs : List (α × Addr × Value)}, NPair κ (TH H) kvs xs → ∀ y ∈ xs, κ.at_ (TH H) y.1 (.ref y.2.1) := by
    intro kvs xs r
    induction r with
    | nil => exact fun _ h => absurd h List.not_mem_nil
    | cons q _ ih =>
      intro y hy
      rcases List.mem_cons.mp hy with rfl | hy
      · exact q.2.1
      · exact ih y hy
  exact ⟨κ.is ok (key r y hy) rfl, κ.dp _⟩
  ) only [↓qboxT]

theorem NPair.val {xs : List (α × Addr × Value)} (r : NPair κ T kvs xs) (k : α) : RelO (valV kvs k) ((atKey xs k).map (·.2)) := by
  refine QBox.out ?_
  simp (disch :=
  refine qkeep ?_
  with_unfolding_all
  induction r with
  | nil => trivial
  | @cons p q l1 l2 f t ih =>
    unfold valV atKey at ih ⊢
    by_cases e : p.1 = k
    · have e2 : q.1 = k := f.1.symm.trans e
      rw [List.find?_cons_of_pos (by simp [e]), List.find?_cons_of_pos (by simp [e2])]
      exact f.2.2
    · have e2 : ¬ q.1 = k := fun z => e (f.1.trans z)
      rw [List.find?_cons_of_neg (by simpa using e), List.find?_cons_of_neg (by simpa using e2)]
      exact ih
  ) only [↓qboxT]

theorem relO_val {o1 : Option V} {o2 : Option Value} {v : V} (r : RelO o1 o2) (e : o1 = some v) : ∃ u, o2 = some u ∧ RelV v u := by
  subst e
  cases o2 with
  | none => exact (show False from r).elim
  | some u => exact ⟨u, rfl, r⟩
theorem NPair.put {xs : List (α × Addr × Value)} (r : NPair κ T kvs xs) {k : α} {a : Addr} {v : V} {u : Value} (hk : κ.at_ T k (.ref a)) (rv : RelV v u) : NPair κ T (putK kvs k v) (storedH xs k a u) := by
  refine QBox.out ?_
  simp (disch :=
  refine qkeep ?_
  with_unfolding_all
  have h1 := r.val k
  have h2 := valV_any k kvs
  unfold putK
  rw [h2]
  cases e : valV kvs k with
  | none =>
    rw [e] at h1
    have e2 : atKey xs k = none := by
      cases z : atKey xs k with
      | none => rfl
      | some p => rw [z] at h1; exact (show False from h1).elim
    rw [storedH_new e2, if_neg (by decide)]
    clear h1 h2 e e2
    induction r with
    | nil => exact .cons ⟨rfl, hk, rv⟩ .nil
    | cons f _ ih => exact .cons f ih
  | some x =>
    obtain ⟨p, e2, _⟩ := relO_val h1 e
    obtain ⟨p', e3, _⟩ := Option.map_eq_some_iff.mp e2
    rw [storedH_old e3, if_pos (show (some x).isSome = true from rfl)]
    clear h1 h2 e e2 e3
    induction r with
    | nil => exact .nil
    | @cons p q l1 l2 f _ ih =>
      refine .cons ?_ ih
      unfold putAt
      by_cases e : p.1 = k
      · have e2 : q.1 = k := f.1.symm.trans e
        dsimp only
        rw [if_pos e, if_pos e2]
        exact ⟨f.1, f.2.1, rv⟩
      · have e2 : ¬ q.1 = k := fun z => e (f.1.trans z)
        dsimp only
        rw [if_neg e, if_neg e2]
        exact f
  ) only [↓qboxT]

theorem NPair.drop {xs : List (α × Addr × Value)} (r : NPair κ T kvs xs) (k : α) : NPair κ T (dropK kvs k) (withoutH xs k) := by
  refine QBox.out ?_
  simp (disch :=
  refine qkeep ?_
  with_unfolding_all
  induction r with
  | nil => exact .nil
  | @cons p q l1 l2 f _ ih =>
    by_cases e : p.1 = k
    · have e2 : q.1 = k := f.1.symm.trans e
      have z1 : dropK (p :: l1) k = dropK l1 k := List.filter_cons_of_neg (by simp [e])
      have z2 : withoutH (q :: l2) k = withoutH l2 k := List.filter_cons_of_neg (by simp [e2])
      rw [z1, z2]
      exact ih
    · have e2 : ¬ q.1 = k := fun z => e (f.1.trans z)
      have z1 : dropK (p :: l1) k = p :: dropK l1 k := List.filter_cons_of_pos (by simp [e])
      have z2 : withoutH (q :: l2) k = q :: withoutH l2 k := List.filter_cons_of_pos (by simp [e2])
      rw [z1, z2]
      exact .cons f ih
  ) only [↓qboxT]

theorem NOk.nil (hb : (d == sysModules) = false) : NOk κ P w T d ({ cls := .type "dict", data := .dict #[] } : Obj) [] := ⟨Nat.zero_le _, hb, [], #[], 0, .nil, ⟨rfl, rfl, rfl⟩, rfl, rfl, List.nodup_nil⟩
theorem NPair.tup {xs : List (α × Addr × Value)} (r : NPair κ T kvs xs) : kvs.length = xs.length := Paired.length r
end
section
variable {X : Cx} {α : Type} [DecidableEq α] {κ : KK α}
/-- at d stands the dict, as far as the tuples T tell -/
def NAt (κ : KK α) (P : Program) (w : World) (H : Hp) (d : Addr) (kvs : List (α × V)) : Prop := ∃ o, H d = some (nO d o) ∧ NOk κ P w (TH H) d o kvs
end
end Q
namespace Q
open PySem PySem.Spec PyProof.Rows L2
inductive Dt where
  | non
  | bl (b : Bool)
  | int (i : Int)
  | str (x : Str)
  | lst (ds : List Dt)
  | tup (ds : List Dt)
abbrev LK := Addr → HO → Prop
def LH (H : Hp) : LK := fun a o => H a = some o
def LP (g : PH) : LK := fun a o => g a = some (o, true)
def LT (T : TT') : LK := fun a o => ∃ vs, o = .tup vs ∧ T a vs
mutual
inductive DG (L : LK) : Dt → V → Prop
  | non : DG L .non .non
  | bl (b : Bool) : DG L (.bl b) (.bl b)
  | int (i : Int) : DG L (.int i) (.int i)
  | str (x : Str) : DG L (.str x) (.str x)
  | lst {a : Addr} {vs : List V} {ds : List Dt} : L a (.lst vs) → DsG L ds vs → DG L (.lst ds) (.ref a)
  | tup {a : Addr} {vs : List V} {ds : List Dt} : L a (.tup vs) → DsG L ds vs → DG L (.tup ds) (.ref a)
inductive DsG (L : LK) : List Dt → List V → Prop
  | nil : DsG L [] []
  | cons {d : Dt} {v : V} {ds : List Dt} {vs : List V} : DG L d v → DsG L ds vs → DsG L (d :: ds) (v :: vs)
end
section
variable {L L' : LK}
mutual
theorem DG.mono (m : ∀ a o, L a o → L' a o) : ∀ {d : Dt} {v : V}, DG L d v → DG L' d v
  | _, _, .non => .non
  | _, _, .bl b => .bl b
  | _, _, .int i => .int i
  | _, _, .str x => .str x
  | _, _, .lst h t => .lst (m _ _ h) (DsG.mono m t)
  | _, _, .tup h t => .tup (m _ _ h) (DsG.mono m t)
theorem DsG.mono (m : ∀ a o, L a o → L' a o) : ∀ {ds : List Dt} {vs : List V}, DsG L ds vs → DsG L' ds vs
  | _, _, .nil => .nil
  | _, _, .cons h t => .cons (DG.mono m h) (DsG.mono m t)
end
theorem DsG.len {ds : List Dt} {vs : List V} (h : DsG L ds vs) : ds.length = vs.length := by
  induction ds generalizing vs with
  | nil => cases h; rfl
  | cons d ds ih =>
    cases h with
    | cons _ t => rw [List.length_cons, List.length_cons, ih t]
theorem DsG.at2 {ds : List Dt} {vs : List V} (h : DsG L ds vs) : ∀ {i : Nat} {d : Dt}, ds[i]? = some d → ∃ v, vs[i]? = some v ∧ DG L d v := by
  induction ds generalizing vs with
  | nil => cases h; intro i v e; simp at e
  | cons d ds ih =>
    cases h with
    | cons x t =>
      intro i v e
      cases i with
      | zero => cases e; exact ⟨_, rfl, x⟩
      | succ i => exact ih t e
theorem DsG.app {ds es : List Dt} {vs us : List V} (h : DsG L ds vs) (k : DsG L es us) : DsG L (ds ++ es) (vs ++ us) := by
  induction ds generalizing vs with
  | nil => cases h; exact k
  | cons d ds ih =>
    cases h with
    | cons x t => exact .cons x (ih t)
theorem DsG.split {ds es : List Dt} {vs : List V} (h : DsG L (ds ++ es) vs) : ∃ us ws, vs = us ++ ws ∧ DsG L ds us ∧ DsG L es ws := by
  refine QBox.out ?_
  simp (disch :=
  refine qkeep ?_
  with_unfolding_all
  induction ds generalizing vs with
  | nil => exact ⟨[], vs, rfl, .nil, h⟩
  | cons d ds ih =>
    cases h with
    | cons x t =>
      obtain ⟨us, ws, rfl, a, b⟩ := ih t
      exact ⟨_ :: us, ws, rfl, .cons x a, b⟩
  ) only [↓qboxT]

theorem DsG.take {ds : List Dt} {vs : List V} (n : Nat) (h : DsG L ds vs) : DsG L (ds.take n) (vs.take n) := by
  refine QBox.out ?_
  simp (disch :=
  refine qkeep ?_
  with_unfolding_all
  induction n generalizing ds vs with
  | zero => rw [List.take_zero, List.take_zero]; exact .nil
  | succ n ih =>
    cases h with
    | nil => rw [List.take_nil, List.take_nil]; exact .nil
    | cons x t => rw [List.take_succ_cons, List.take_succ_cons]; exact .cons x (ih t)
  ) only [↓qboxT]

theorem DsG.drop {ds : List Dt} {vs : List V} (n : Nat) (h : DsG L ds vs) : DsG L (ds.drop n) (vs.drop n) := by
  refine QBox.out ?_
  simp (disch :=
  refine qkeep ?_
  with_unfolding_all
  induction n generalizing ds vs with
  | zero => rw [List.drop_zero, List.drop_zero]; exact h
  | succ n ih =>
    cases h with
    | nil => rw [List.drop_nil, List.drop_nil]; exact .nil
    | cons x t => rw [List.drop_succ_cons, List.drop_succ_cons]; exact ih t
  ) only [↓qboxT]

theorem DG.ref_t {ds : List Dt} {v : V} (h : DG L (.tup ds) v) : ∃ a vs, v = .ref a ∧ L a (.tup vs) ∧ DsG L ds vs := by cases h; exact ⟨_, _, rfl, ‹_›, ‹_›⟩
end
mutual
def toPy : Dt → PyData
  | .non => .none
  | .bl b => .bool b
  | .int i => .int i
  | .str x => .str x
  | .lst ds => .list (toPys ds)
  | .tup ds => .tuple (toPys ds)
def toPys : List Dt → List PyData
  | [] => []
  | d :: ds => toPy d :: toPys ds
end
/-- of a depth, of texts that can be compared, not too long -/
def okd : Nat → Dt → Prop
  | _, .non | _, .bl _ | _, .int _ => True
  | _, .str x => okS x
  | 0, _ => False
  | n + 1, .lst ds => ds.length ≤ 100000 ∧ ∀ d ∈ ds, okd n d
  | n + 1, .tup ds => ds.length ≤ 100000 ∧ ∀ d ∈ ds, okd n d
/-- bools never stand beside numbers -/
def tyd : Nat → Dt → Dt → Prop
  | _, .bl _, .int _ => False
  | _, .int _, .bl _ => False
  | n + 1, .lst ds, .lst es => ∀ (i : Nat) d e, ds[i]? = some d → es[i]? = some e → tyd n d e
  | n + 1, .tup ds, .tup es => ∀ (i : Nat) d e, ds[i]? = some d → es[i]? = some e → tyd n d e
  | 0, .lst _, .lst _ => False
  | 0, .tup _, .tup _ => False
  | _, _, _ => True
section
variable {K : PySem.W.Frag} {H : Hp}
mutual
theorem DG.dp : ∀ {d : Dt} {v : V}, DG (LH H) d v → Dp K H v (toPy d)
  | _, _, .non => .non
  | _, _, .bl b => .bl b
  | _, _, .int i => .int i
  | _, _, .str x => .str x
  | _, _, .lst h t => .lst (.of h) (DsG.dp t)
  | _, _, .tup h t => .tup (.of h) (DsG.dp t)
theorem DsG.dp : ∀ {ds : List Dt} {vs : List V}, DsG (LH H) ds vs → DpAll K H vs (toPys ds)
  | _, _, .nil => .nil
  | _, _, .cons h t => .cons (DG.dp h) (DsG.dp t)
end
theorem DG.al : ∀ {n : Nat} {d : Dt} {v u : V}, okd n d → DG (LH H) d v → DG (LH H) d u → Al H (n + 1) v u
  | n, .non, _, _, _, .non, .non => .sc .non
  | n, .bl b, _, _, _, .bl _, .bl _ => .sc (.bl b)
  | n, .int i, _, _, _, .int _, .int _ => .sc (.int i)
  | n, .str x, _, _, _, .str _, .str _ => .sc (.str x)
  | n + 1, .lst ds, _, _, ok, .lst h t, .lst h' t' => by
    have key : ∀ {ds : List Dt} {vs us : List V}, (∀ d ∈ ds, okd n d) → DsG (LH H) ds vs → DsG (LH H) ds us → Als H (n + 1) vs us := by
      intro ds
      induction ds with
      | nil => intro vs us _ a b; cases a; cases b; exact .nil
      | cons d ds ih =>
        intro vs us ok a b
        cases a with
        | cons x t =>
          cases b with
          | cons y t' => exact .cons (DG.al (ok d List.mem_cons_self) x y) (ih (fun e he => ok e (List.mem_cons_of_mem _ he)) t t')
    exact .lst' h h' (key ok.2 t t') (by rw [← t'.len]; exact ok.1)
  | n + 1, .tup ds, _, _, ok, .tup h t, .tup h' t' => by
    have key : ∀ {ds : List Dt} {vs us : List V}, (∀ d ∈ ds, okd n d) → DsG (LH H) ds vs → DsG (LH H) ds us → Als H (n + 1) vs us := by
      intro ds
      induction ds with
      | nil => intro vs us _ a b; cases a; cases b; exact .nil
      | cons d ds ih =>
        intro vs us ok a b
        cases a with
        | cons x t =>
          cases b with
          | cons y t' => exact .cons (DG.al (ok d List.mem_cons_self) x y) (ih (fun e he => ok e (List.mem_cons_of_mem _ he)) t t')
    exact .tup' h h' (key ok.2 t t') (by rw [← t'.len]; exact ok.1)
end
def DR (d : Dt) (v : V) : Res := fun g => DG (LP g) d v
def DsR (ds : List Dt) (vs : List V) : Res := fun g => DsG (LP g) ds vs
section
variable {H : Hp} {R : List Res} {d : Dt} {v : V} {ds es : List Dt} {vs us : List V} {a : Addr} {i : Nat}
theorem leLP {g g' : PH} (l : leP g g') : ∀ a o, LP g a o → LP g' a o := fun a o e => l a _ e
theorem leLH {g : PH} (l : leH g H) : ∀ a o, LP g a o → LH H a o := fun a o e => l a o true e
theorem DR.h (S : Sat H (DR d v :: R)) : DG (LH H) d v := by
  obtain ⟨g, z, y, _⟩ := Parts.cons_iff.mp S
  exact z.mono (leLH y)
theorem DsR.h (S : Sat H (DsR ds vs :: R)) : DsG (LH H) ds vs := by
  obtain ⟨g, z, y, _⟩ := Parts.cons_iff.mp S
  exact z.mono (leLH y)
def sharedOf (g : PH) : PH := fun b => match g b with
  | some (o, true) => some (o, true)
  | _ => none
theorem sharedOf_le (g : PH) : leP (sharedOf g) g := fun b x e => by
  unfold sharedOf at e
  split at e
  · rename_i o h
    rw [h, ← e]
  · cases e
theorem sharedOf_t (g : PH) : ∀ b x, sharedOf g b = some x → x.2 = true := fun b x e => by
  unfold sharedOf at e
  split at e
  · cases e; rfl
  · cases e
theorem sharedOf_LP (g : PH) : ∀ b o, LP g b o → LP (sharedOf g) b o := fun b o e => by
  show sharedOf g b = _
  unfold sharedOf
  rw [show g b = some (o, true) from e]
theorem pers_DR : Pers (DR d v) := fun g z => ⟨sharedOf g, z.mono (sharedOf_LP g), sharedOf_le g, sharedOf_t g⟩
theorem pers_DsR : Pers (DsR ds vs) := fun g z => ⟨sharedOf g, z.mono (sharedOf_LP g), sharedOf_le g, sharedOf_t g⟩
/-- a part that asks nothing -/
theorem Sat.free {A : Res} (S : Sat H R) (hA : A fun _ => none) : Sat H (A :: R) :=
  by
  refine Parts.cons_iff.mpr ⟨fun _ => none, hA, fun _ _ _ e => ?_, Parts.imp S fun g q => ⟨q, fun _ _ _ e => ?_⟩⟩ <;> cases e
theorem Sat.two {A B C : Res} (S : Sat H (A :: B :: R)) (h : ∀ g1 g2 g, leP g1 g → leP g2 g → A g1 → B g2 → C g) : Sat H (C :: R) :=
  (Sat.all (As := [A, B]).mpr S).imp fun g ⟨Ls, e, z, _⟩ => by
    match Ls, e with
    | [p, q], e =>
      obtain ⟨e1, e2⟩ := List.cons.inj e
      obtain ⟨e2, _⟩ := List.cons.inj e2
      have e1 : p.1 = A := e1
      have e2 : q.1 = B := e2
      have z1 := z p List.mem_cons_self
      have z2 := z q (List.mem_cons_of_mem _ List.mem_cons_self)
      rw [e1] at z1
      rw [e2] at z2
      exact h _ _ g z1.2 z2.2 z1.1 z2.1
theorem DR.mkT (S : Sat H (sh a (.tup vs) :: DsR ds vs :: R)) : Sat H (DR (.tup ds) (.ref a) :: R) := S.two fun g1 g2 g l1 l2 x y => .tup (l1 _ _ x) (y.mono (leLP l2))
theorem DR.openT (S : Sat H (DR (.tup ds) v :: R)) : ∃ a vs, v = .ref a ∧ Sat H (sh a (.tup vs) :: DsR ds vs :: R) := by
  refine QBox.out ?_
  simp (disch :=
  refine qkeep ?_
  with_unfolding_all
  obtain ⟨g, z, y, q⟩ := Parts.cons_iff.mp (S.dup pers_DR)
  obtain ⟨a, vs, e, h, t⟩ := z.ref_t
  refine ⟨a, vs, e, Parts.cons_iff.mpr ⟨g, h, y, Parts.cons_iff.mpr ?_⟩⟩
  obtain ⟨g2, z2, y2, q2⟩ := Parts.cons_iff.mp q
  obtain ⟨a2, vs2, e2, h2, t2⟩ := z2.ref_t
  rw [e] at e2
  cases e2
  have e3 := y2.2 _ _ _ h h2
  cases e3.1
  exact ⟨g2, t2, y2, q2⟩
  ) only [↓qboxT]

theorem DsR.nil (S : Sat H R) : Sat H (DsR [] [] :: R) := S.free DsG.nil
theorem DsR.cons (S : Sat H (DR d v :: DsR ds vs :: R)) : Sat H (DsR (d :: ds) (v :: vs) :: R) := S.two fun g1 g2 g l1 l2 x y => DsG.cons (x.mono (leLP l1)) (y.mono (leLP l2))
theorem DsR.snoc (S : Sat H (DR d v :: DsR ds vs :: R)) : Sat H (DsR (ds ++ [d]) (vs ++ [v]) :: R) := S.two fun g1 g2 g l1 l2 x y => (y.mono (leLP l2)).app (DsG.cons (x.mono (leLP l1)) DsG.nil)
theorem DsR.app (S : Sat H (DsR ds vs :: DsR es us :: R)) : Sat H (DsR (ds ++ es) (vs ++ us) :: R) := S.two fun g1 g2 g l1 l2 x y => (x.mono (leLP l1)).app (y.mono (leLP l2))
theorem DsR.imp (S : Sat H (DsR ds vs :: R)) (h : ∀ {L : LK}, DsG L ds vs → DsG L es us) : Sat H (DsR es us :: R) := Sat.imp S fun g z => h z
theorem DsR.to1 (S : Sat H (DsR ds vs :: R)) (h : ∀ {L : LK}, DsG L ds vs → DG L d v) : Sat H (DR d v :: R) := Sat.imp S fun g z => h z
theorem DR.imp {e : Dt} {u : V} (S : Sat H (DR d v :: R)) (h : ∀ {L : LK}, DG L d v → DG L e u) : Sat H (DR e u :: R) := Sat.imp S fun g z => h z
theorem DsR.len (S : Sat H (DsR ds vs :: R)) : ds.length = vs.length := (DsR.h S).len
/-- the i-th one, again -/
theorem DsR.at (S : Sat H (DsR ds vs :: R)) (e : ds[i]? = some d) : ∃ v, vs[i]? = some v ∧ Sat H (DR d v :: DsR ds vs :: R) := by
  obtain ⟨v, hv, _⟩ := (DsR.h S).at2 e
  refine ⟨v, hv, DsR.to1 (S.dup pers_DsR) fun z => ?_⟩
  obtain ⟨v', hv', z'⟩ := z.at2 e
  rw [hv] at hv'
  cases hv'
  exact z'
/-- an owned list of data -/
def LR (a : Addr) (ds : List Dt) : Res := ex fun vs : List V => All [pts a (.lst vs), DsR ds vs]
theorem LR.close (S : Sat H (pts a (.lst vs) :: DsR ds vs :: R)) : Sat H (LR a ds :: R) := Sat.ex.mpr ⟨vs, Sat.all.mpr S⟩
theorem LR.nil (S : Sat H (pts a (.lst []) :: R)) : Sat H (LR a [] :: R) := LR.close ((DsR.nil S).perm (List.Perm.swap _ _ _))
end
def noL : Nat → Dt → Prop
  | _, .non | _, .bl _ | _, .int _ | _, .str _ => True
  | _, .lst _ => False
  | 0, .tup _ => False
  | n + 1, .tup ds => ∀ d ∈ ds, noL n d
mutual
def nkD : Dt → NestedKey
  | .non => .none
  | .bl b => .num (if b = true then 1 else 0)
  | .int i => .num i
  | .str x => .text x
  | .lst _ => .none
  | .tup ds => .tup (nkDs ds)
def nkDs : List Dt → List NestedKey
  | [] => []
  | d :: ds => nkD d :: nkDs ds
end
theorem nk_depth : ∀ {n : Nat} {d : Dt}, noL n d → (nkD d).depth ≤ n
  | n, .non, _ => Nat.zero_le _
  | n, .bl b, _ => Nat.zero_le _
  | n, .int i, _ => Nat.zero_le _
  | n, .str x, _ => Nat.zero_le _
  | n, .lst ds, h => by cases n <;> exact h.elim
  | n + 1, .tup ds, h => by
    have key : ∀ {ds : List Dt}, (∀ d ∈ ds, noL n d) → NestedKey.depthAll (nkDs ds) ≤ n := by
      intro ds
      induction ds with
      | nil => exact fun _ => Nat.zero_le _
      | cons d ds ih => exact fun ok => Nat.max_le.mpr ⟨nk_depth (ok d List.mem_cons_self), ih fun e he => ok e (List.mem_cons_of_mem _ he)⟩
    exact Nat.succ_le_succ (key h)
theorem nk_inj : ∀ {n m : Nat} {d e : Dt}, noL n d → noL n e → tyd m d e → nkD d = nkD e → d = e
  | n, m, .non, e, _, h2, _, h => by
    cases e with
    | non => rfl
    | lst es => cases n <;> exact h2.elim
    | _ => exact nomatch h
  | n, m, .bl b, e, _, h2, t, h => by
    cases e with
    | bl c =>
      have h : NestedKey.num _ = NestedKey.num _ := h
      injection h with h
      cases b <;> cases c <;> first | rfl | (simp at h)
    | int i => cases m <;> exact t.elim
    | lst es => cases n <;> exact h2.elim
    | _ => exact nomatch h
  | n, m, .int i, e, _, h2, t, h => by
    cases e with
    | bl c => cases m <;> exact t.elim
    | int j =>
      have h : NestedKey.num _ = NestedKey.num _ := h
      injection h with h
      rw [h]
    | lst es => cases n <;> exact h2.elim
    | _ => exact nomatch h
  | n, m, .str x, e, _, h2, _, h => by
    cases e with
    | str y =>
      have h : NestedKey.text _ = NestedKey.text _ := h
      injection h with h
      rw [h]
    | lst es => cases n <;> exact h2.elim
    | _ => exact nomatch h
  | n, m, .lst ds, e, h1, _, _, _ => by cases n <;> exact h1.elim
  | n + 1, m, .tup ds, e, h1, h2, t, h => by
    cases e with
    | tup es =>
      cases m with
      | zero => exact t.elim
      | succ m =>
        have h : NestedKey.tup _ = NestedKey.tup _ := h
        injection h with h
        have key : ∀ {ds es : List Dt}, (∀ d ∈ ds, noL n d) → (∀ d ∈ es, noL n d) → (∀ (i : Nat) d e, ds[i]? = some d → es[i]? = some e → tyd m d e) → nkDs ds = nkDs es → ds = es := by
          intro ds
          induction ds with
          | nil =>
            intro es _ _ _ h
            cases es with
            | nil => rfl
            | cons _ _ => exact nomatch h
          | cons d ds ih =>
            intro es o1 o2 t h
            cases es with
            | nil => exact nomatch h
            | cons e es =>
              have h : nkD d :: nkDs ds = nkD e :: nkDs es := h
              injection h with ha hb
              rw [nk_inj (o1 d List.mem_cons_self) (o2 e List.mem_cons_self) (t 0 d e rfl rfl) ha, ih (fun x hx => o1 x (List.mem_cons_of_mem _ hx)) (fun x hx => o2 x (List.mem_cons_of_mem _ hx)) (fun i a b x y => t (i + 1) a b x y) hb]
        rw [key h1 h2 t h]
    | lst es => exact h2.elim
    | _ => exact nomatch h
  | 0, m, .tup ds, e, h1, _, _, _ => h1.elim
theorem LT.mono {T T' : TT'} (m : ∀ a vs, T a vs → T' a vs) : ∀ a o, LT T a o → LT T' a o := fun a o ⟨vs, e, t⟩ => ⟨vs, e, m _ _ t⟩
mutual
theorem DG.is {P : Program} {w : World} {H : Hp} {h : Heap} (ok : HOk P w H h) : ∀ {d : Dt} {v : V} {u : Value}, DG (LT (TH H)) d v → RelV v u → NestedIs h (nkD d) u
  | _, _, _, .non, r => by cases r; exact .none
  | _, _, _, .bl b, r => by cases r; exact .bool rfl
  | _, _, _, .int i, r => by obtain ⟨t, rfl⟩ := r; exact .int i t
  | _, _, _, .str x, r => by obtain ⟨t, rfl⟩ := r; exact .text x t
  | _, _, _, .lst h t, r => by obtain ⟨vs, e, _⟩ := h; cases e
  | _, _, _, .tup hl t, r => by
    cases r
    obtain ⟨vs, e, hT⟩ := hl
    cases e
    obtain ⟨_, its, rel, o, h1, h2, n, h3⟩ := ok _ _ hT
    exact .tup h1 h2 h3 (DsG.is ok t rel)
theorem DsG.is {P : Program} {w : World} {H : Hp} {h : Heap} (ok : HOk P w H h) : ∀ {ds : List Dt} {vs : List V} {us : List Value}, DsG (LT (TH H)) ds vs → Vals vs us → NestedAll h (nkDs ds) us
  | _, _, _, .nil, r => by cases r; exact .nil
  | _, _, _, .cons x t, r => by
    cases r with
    | cons a b => exact .cons (DG.is ok x a) (DsG.is ok t b)
end
mutual
theorem noL_LT : ∀ {n : Nat} {d : Dt} {v : V} {g : PH}, noL n d → DG (LP g) d v → DG (LT (TP g)) d v
  | _, _, _, _, _, .non => .non
  | _, _, _, _, _, .bl b => .bl b
  | _, _, _, _, _, .int i => .int i
  | _, _, _, _, _, .str x => .str x
  | n, _, _, _, h, .lst _ _ => by cases n <;> exact h.elim
  | 0, _, _, _, h, .tup _ _ => h.elim
  | n + 1, _, _, _, h, .tup a t => .tup ⟨_, rfl, a⟩ (noL_LTs h t)
theorem noL_LTs : ∀ {n : Nat} {ds : List Dt} {vs : List V} {g : PH}, (∀ d ∈ ds, noL n d) → DsG (LP g) ds vs → DsG (LT (TP g)) ds vs
  | _, _, _, _, _, .nil => .nil
  | _, _, _, _, h, .cons x t => .cons (noL_LT (h _ List.mem_cons_self) x) (noL_LTs (fun e he => h e (List.mem_cons_of_mem _ he)) t)
end
/-- keys that are tuples of plain values, by a function to data -/
def KK.of {α : Type} (f : α → List Dt) (inj : ∀ x y, f x = f y → x = y) (nl : ∀ x, noL 8 (.tup (f x))) (ty : ∀ x y, tyd 8 (.tup (f x)) (.tup (f y))) : KK α where
  nk x := nkD (.tup (f x))
  inj x y h := inj x y (by
    have := nk_inj (nl x) (nl y) (ty x y) h
    injection this)
  dp x := nk_depth (nl x)
  at_ T x v := DG (LT T) (.tup (f x)) v
  mono m h := h.mono (LT.mono m)
  is ok h r := h.is ok r
  ref h := let ⟨a, _, e, _⟩ := h.ref_t; ⟨a, e⟩
end Q
namespace Q
open PySem PySem.Spec PyProof.Rows L2
section
variable {α : Type} [DecidableEq α] {κ : KK α} {P : Program} {w : World} {H : Hp} {R As : List Res} {d : Addr} {kvs kvs' : List (α × V)} {x k : α} {v y : V}
def NDict (κ : KK α) (P : Program) (w : World) (d : Addr) (kvs : List (α × V)) : Res := fun g => ∃ o, g d = some (nO d o, false) ∧ NOk κ P w (TP g) d o kvs
def KeyR (κ : KK α) (x : α) (v : V) : Res := fun g => κ.at_ (TP g) x v
theorem TPH {g : PH} (l : leH g H) : ∀ a vs, TP g a vs → TH H a vs := fun a vs e => l a _ true e
theorem NDict.at (S : Sat H (NDict κ P w d kvs :: R)) : NAt κ P w H d kvs := by
  obtain ⟨g, ⟨o, e, n⟩, y, _⟩ := Parts.cons_iff.mp S
  exact ⟨o, y d _ false e, n.mono (TPH y)⟩
theorem NDict.new {p : Addr} {o : Obj} (S : Sat H As) (hp : H p = none) (n : NOk κ P w (fun _ _ => False) p o []) : Sat (upd H p (nO p o)) (NDict κ P w p [] :: As) :=
  (S.new (o := nO p o) hp).imp fun g z => ⟨o, z, n.mono fun _ _ h => h.elim⟩
theorem nO_ne {o : Obj} {vs : List V} {b b' : Bool} (h : (nO d o, b) = (HO.tup vs, b')) : False := by
  have := congrArg Prod.fst h
  exact nomatch this
/-- the dict and a key: what a store asks -/
theorem NDict.put (S : Sat H (NDict κ P w d kvs :: KeyR κ k y :: R)) : ∃ (o : Obj) (T : TT'), H d = some (nO d o) ∧ (∀ a vs, T a vs → TH H a vs) ∧ NOk κ P w T d o kvs ∧ κ.at_ T k y ∧
    ∀ o' kvs', NOk κ P w T d o' kvs' → Sat (upd H d (nO d o')) (NDict κ P w d kvs' :: R) := by
  obtain ⟨g, ⟨o, e, n⟩, l, q⟩ := Parts.cons_iff.mp S
  obtain ⟨g2, z, ⟨l2, a2⟩, q⟩ := Parts.cons_iff.mp q
  refine ⟨o, fun a vs => TP g a vs ∨ TP g2 a vs, l d _ false e, fun a vs h => h.elim (TPH l a vs) (TPH l2 a vs), n.mono fun _ _ h => .inl h, κ.mono (fun _ _ h => .inr h) z, fun o' kvs' n' => ?_⟩
  refine Parts.cons_iff.mpr ⟨fun b => if b = d then some (nO d o', false) else (g b).or (g2 b), ⟨o', if_pos rfl, n'.mono fun a vs h => ?_⟩, fun b u t eb => ?_, q.imp fun h hh => ⟨fun b u t eb => ?_, fun b u t e1 e2 => ?_⟩⟩
  · have ne : a ≠ d := by
      rintro rfl
      rcases h with h | h
      · rw [show g a = some (.tup vs, true) from h] at e
        exact nO_ne (Option.some.inj e).symm
      · exact nO_ne ((a2 a _ _ e h).1)
    show (if a = d then some (nO d o', false) else (g a).or (g2 a)) = some (.tup vs, true)
    rw [if_neg ne]
    rcases h with h | h
    · rw [show g a = some (.tup vs, true) from h]; rfl
    · cases hg : g a with
      | none => rw [Option.none_or]; exact h
      | some x => rw [(a2 a _ _ hg h).1]; rfl
  · have eb : (if b = d then some (nO d o', false) else (g b).or (g2 b)) = some (u, t) := eb
    by_cases hb : b = d
    · rw [if_pos hb] at eb
      cases eb
      rw [hb]
      exact upd_same
    · rw [if_neg hb] at eb
      rw [upd_ne hb]
      cases hg : g b with
      | none => rw [hg, Option.none_or] at eb; exact l2 b u t eb
      | some x => rw [hg, Option.some_or] at eb; cases eb; exact l b u t hg
  · have hb : b ≠ d := by
      rintro rfl
      exact Bool.false_ne_true (hh.1.2 b _ _ e eb).2
    rw [upd_ne hb]
    exact hh.1.1 b u t eb
  · have e1 : (if b = d then some (nO d o', false) else (g b).or (g2 b)) = some u := e1
    have hb : b ≠ d := by
      rintro rfl
      exact Bool.false_ne_true (hh.1.2 b _ _ e e2).2
    rw [if_neg hb] at e1
    cases hg : g b with
    | none => rw [hg, Option.none_or] at e1; exact hh.2 b u t e1 e2
    | some x => rw [hg, Option.some_or] at e1; cases e1; exact hh.1.2 b _ t hg e2
end
section
variable {α : Type} [DecidableEq α] {κ : KK α} {P : Program} {w : World} {K : PySem.W.Frag} {d : Addr} {o : Obj} {kvs : List (α × V)}
/-- the dict with just this object -/
def NAtO (κ : KK α) (P : Program) (w : World) (H : Hp) (d : Addr) (o : Obj) (kvs : List (α × V)) : Prop := H d = some (nO d o) ∧ NOk κ P w (TH H) d o kvs
theorem NPair.get {T : TT'} {kvs : List (α × V)} {xs : List (α × Addr × Value)} (r : NPair κ T kvs xs) : ∀ {i : Nat} {x : α × Addr × Value}, xs[i]? = some x → ∃ p, kvs[i]? = some p ∧ p.1 = x.1 ∧ κ.at_ T x.1 (.ref x.2.1) ∧ RelV p.2 x.2.2 := by
  induction r with
  | nil => intro i x h; simp at h
  | cons f _ ih =>
    intro i x h
    cases i with
    | zero => cases h; exact ⟨_, rfl, f.1, f.2.1, f.2.2⟩
    | succ i => exact ih h
/-- the dict as a part with its object told, for walks -/
def NDictO (κ : KK α) (P : Program) (w : World) (d : Addr) (o : Obj) (kvs : List (α × V)) : Res := fun g => g d = some (nO d o, false) ∧ NOk κ P w (TP g) d o kvs
theorem NDictO.at {H : Hp} {R : List Res} (S : Sat H (NDictO κ P w d o kvs :: R)) : NAtO κ P w H d o kvs := by
  obtain ⟨g, ⟨e, n⟩, y, _⟩ := Parts.cons_iff.mp S
  exact ⟨y d _ false e, n.mono (TPH y)⟩
end
end Q
namespace Q
open PySem PySem.Spec PyProof.Rows L2
structure Shp where
  el : Option Int
  row : List (Str × Bool)
  shut : Bool
deriving DecidableEq
inductive Wrd where
  | put (n : Str)
  | fix (n : Str)
  | out
  | turn (e : Option Int)
  | shut
deriving DecidableEq
def elD : Option Int → Dt
  | none => .non
  | some i => .int i
def prD (p : Str × Bool) : Dt := .tup [.str p.1, .bl p.2]
def rowD (r : List (Str × Bool)) : List Dt := r.map prD
def shT (s : Shp) : List Dt := [elD s.el, .tup (rowD s.row), .bl s.shut]
def shL (s : Shp) : List Dt := [elD s.el, .lst (rowD s.row), .bl s.shut]
def wdD : Wrd → List Dt
  | .put n => [.str "put", .str n]
  | .fix n => [.str "fix", .str n]
  | .out => [.str "out"]
  | .turn e => [.str "turn", elD e]
  | .shut => [.str "shut"]
section
variable {L : LK}
theorem DG.el {e : Option Int} {v : V} (h : DG L (elD e) v) : v = ofO e := by cases e <;> cases h <;> rfl
theorem DsG.one {d : Dt} {v : V} (h : DG L d v) : DsG L [d] [v] := .cons h .nil
end
theorem tyd_el (n : Nat) (a b : Option Int) : tyd n (elD a) (elD b) := by
  cases a <;> cases b <;> cases n <;> trivial
theorem tyd_rows (n : Nat) (r q : List (Str × Bool)) : ∀ (i : Nat) d e, (rowD r)[i]? = some d → (rowD q)[i]? = some e → tyd (n + 1) d e := fun i d e h1 h2 => by
  obtain ⟨x, _, rfl⟩ := at_map h1
  obtain ⟨y, _, rfl⟩ := at_map h2
  intro j d e h3 h4
  match j with
  | 0 => cases h3; cases h4; cases n <;> trivial
  | 1 => cases h3; cases h4; cases n <;> trivial
  | j + 2 => simp at h3
theorem tyd_shT (x y : Shp) : tyd 8 (.tup (shT x)) (.tup (shT y)) := fun i d e h1 h2 => by
  match i with
  | 0 => cases h1; cases h2; exact tyd_el _ _ _
  | 1 => cases h1; cases h2; exact tyd_rows _ _ _
  | 2 => cases h1; cases h2; trivial
  | i + 3 => simp [shT] at h1
theorem prD_inj {p q : Str × Bool} (h : prD p = prD q) : p = q := by
  obtain ⟨a, b⟩ := p
  obtain ⟨c, d⟩ := q
  simp [prD] at h
  rw [h.1, h.2]
theorem elD_inj {a b : Option Int} (h : elD a = elD b) : a = b := by
  cases a <;> cases b <;> simp [elD] at h <;> simp [h]
theorem rowD_inj {r q : List (Str × Bool)} (h : rowD r = rowD q) : r = q := List.map_inj_right (fun _ _ => prD_inj) |>.mp h
theorem shT_inj (x y : Shp) (h : shT x = shT y) : x = y := by
  obtain ⟨a, b, c⟩ := x
  obtain ⟨d, e, f⟩ := y
  simp only [shT, List.cons.injEq, Dt.tup.injEq, Dt.bl.injEq, and_true] at h
  rw [elD_inj h.1, rowD_inj h.2.1, h.2.2]
theorem noL_el (n : Nat) (e : Option Int) : noL n (elD e) := by cases e <;> cases n <;> trivial
theorem noL_row (n : Nat) (r : List (Str × Bool)) : noL (n + 2) (.tup (rowD r)) := fun d hd => by
  obtain ⟨p, _, rfl⟩ := List.mem_map.mp hd
  intro e he
  simp only [List.mem_cons, List.not_mem_nil, or_false] at he
  rcases he with rfl | rfl <;> cases n <;> trivial
theorem noL_shT (x : Shp) : noL 8 (.tup (shT x)) := fun d hd => by
  simp only [shT, List.mem_cons, List.not_mem_nil, or_false] at hd
  rcases hd with rfl | rfl | rfl
  · exact noL_el _ _
  · exact noL_row 5 _
  · trivial
def kShp : KK Shp := KK.of shT shT_inj noL_shT tyd_shT
/-- names fit -/
def okRow (r : List (Str × Bool)) : Prop := r.length ≤ 1000 ∧ ∀ p ∈ r, okS p.1
def Wrd.ok : Wrd → Prop
  | .put n | .fix n => okS n
  | _ => True
theorem DG.key {g : PH} {s : Shp} {v : V} (h : DG (LP g) (.tup (shT s)) v) : kShp.at_ (TP g) s v := noL_LT (noL_shT s) h
def rTup (K : PySem.W.Frag) : List V → Hp → VK → Prop := fun xs H Q => ∃ p ys, xs = [.ref p] ∧ ((SqL K H p ys ∧ ∀ l, H l = none → Q (.ref l) (upd H l (.tup ys))) ∨ (SqT K H p ys ∧ Q (.ref p) H))
theorem call_tupleK {X : Cx} (K : PySem.W.Frag) (h : X.K = K := by rfl) : CallR X (.type "tuple") (rTup K) := h ▸ call_tuple_of
theorem w_tupOf {K : PySem.W.Frag} {H : Hp} {Z : VK} {As : List Res} {p : Addr} {ys : List V} (S : Sat H As) (h : H p = some (.lst ys)) (k : ∀ q H', Sat H' (sh q (.tup ys) :: As) → Z (.ref q) H') : rTup K [.ref p] H Z := ⟨p, ys, rfl, .inl ⟨.of h, fun q hq => k q _ (S.newS hq)⟩⟩
theorem DR.row {H : Hp} {R : List Res} {q : Addr} {acc : List V} {row : List (Str × Bool)} (S : Sat H (sh q (.tup acc) :: DsR (rowD row) acc :: R)) : Sat H (DR (.tup (rowD row)) (.ref q) :: R) := DR.mkT S
theorem LT.p {g : PH} : ∀ a o, LT (TP g) a o → LP g a o := fun a o ⟨vs, e, t⟩ => by subst e; exact t
def wayD (x : (Nat × Wrd) × Nat) : Dt := .tup [.int (x.1.1 : Int), .tup (wdD x.1.2), .int (x.2 : Int)]
structure Bk where
  shapes : List (Nat × Shp)
  next : Nat
  gone : List ((Nat × Wrd) × Nat)
def Bk.get (b : Bk) (k : Nat) : Option Shp := (b.shapes.find? fun p => decide (p.1 = k)).map (·.2)
structure BkOk (b : Bk) (N : Nat) : Prop where
  lt : ∀ p ∈ b.shapes, p.1 < b.next
  up : (b.shapes.map (·.1)).Pairwise (· < ·)
  ns : (b.shapes.map (·.2)).Nodup
  rows : ∀ p ∈ b.shapes, okRow p.2.row
  len : b.shapes.length ≤ N
  gl : b.gone.length ≤ N
  gk : (b.gone.map (·.1)).Nodup
  nx : b.next ≤ 1000000
abbrev shKV (q : (Nat × Shp) × V) : Key × V := (Sum.inl (q.1.1 : Int), q.2)
abbrev shVs (qs : List ((Nat × Shp) × V)) : List V := qs.map fun q => q.2
theorem val_map {α β : Type} [DecidableEq α] (f : β → α) (g : β → V) (x : α) : ∀ l : List β, valV (l.map fun p => (f p, g p)) x = (l.find? fun p => decide (f p = x)).map g
  | [] => rfl
  | p :: l => by
    rw [List.map_cons]
    by_cases h : f p = x
    · rw [valV_pos h, List.find?_cons_of_pos (by simp [h])]
      rfl
    · rw [valV_neg h, List.find?_cons_of_neg (by simpa using h)]
      exact val_map f g x l
theorem find_true {α : Type} {f : α → Bool} {l : List α} {x : α} (h : l.find? f = some x) : f x = true := List.find?_some h
theorem get_none' {b : Bk} {k : Nat} (h : b.get k = none) : ∀ p ∈ b.shapes, p.1 ≠ k := fun p hp e => by
  have := List.find?_eq_none.mp (Option.map_eq_none_iff.mp h) p hp
  rw [decide_eq_true e] at this
  exact this rfl
/-- one of the dict of shapes -/
theorem sh_get {qs : List ((Nat × Shp) × V)} {b : Bk} {k : Nat} {s : Shp} (e : qs.map (·.1) = b.shapes) (h : b.get k = some s) : ∃ (i : Nat) (v : V), qs[i]? = some ((k, s), v) ∧ valV (qs.map shKV) (Sum.inl (k : Int)) = some v := by
  refine QBox.out ?_
  simp (disch :=
  refine qkeep ?_
  with_unfolding_all
  have h1 : (qs.map (·.1)).find? (fun p => decide (p.1 = k)) = b.shapes.find? fun p => decide (p.1 = k) := by rw [e]
  obtain ⟨p, hp, e2⟩ := Option.map_eq_some_iff.mp h
  rw [hp, List.find?_map] at h1
  obtain ⟨q, hq, e3⟩ := Option.map_eq_some_iff.mp h1
  obtain ⟨i, hi⟩ := List.mem_iff_getElem?.mp (List.mem_of_find?_eq_some hq)
  have h3 : decide (q.1.1 = k) = true := find_true (f := (fun p : Nat × Shp => decide (p.1 = k)) ∘ fun x : (Nat × Shp) × V => x.1) hq
  have hk : q.1.1 = k := of_decide_eq_true h3
  refine ⟨i, q.2, ?_, ?_⟩
  · rw [hi]
    obtain ⟨⟨a, b⟩, c⟩ := q
    subst hk e2
    rw [← e3]
  · rw [val_map (fun q : (Nat × Shp) × V => (Sum.inl (q.1.1 : Int) : Key)) (fun q => q.2) (Sum.inl (k : Int))]
    have hc : (fun q : (Nat × Shp) × V => decide ((Sum.inl (q.1.1 : Int) : Key) = Sum.inl (k : Int))) = (fun p : Nat × Shp => decide (p.1 = k)) ∘ (fun q : (Nat × Shp) × V => q.1) := by
      funext q
      show decide _ = decide (q.1.1 = k)
      by_cases h : q.1.1 = k
      · rw [decide_eq_true h, decide_eq_true (by rw [h])]
      · rw [decide_eq_false h, decide_eq_false (fun z => h (by have := Sum.inl.inj z; omega))]
    rw [hc, hq]
    rfl
  ) only [↓qboxT]

theorem BkOk.mono {b : Bk} {N M : Nat} (wf : BkOk b N) (h : N ≤ M) : BkOk b M := { wf with len := Nat.le_trans wf.len h, gl := Nat.le_trans wf.gl h }
abbrev shLD (q : (Nat × Shp) × V) : Dt := .tup (shL q.1.2)
abbrev shLDs (qs : List ((Nat × Shp) × V)) : List Dt := qs.map shLD
def OwnB (o : Addr) (b : Bk) : Res := ex fun d => ex fun wl => ex fun qs : List ((Nat × Shp) × V) => All [pure' (qs.map (·.1) = b.shapes), pts o (.lst [.ref d, .int (b.next : Int), .ref wl]), pts d (.dK (qs.map shKV)), DsR (shLDs qs) (shVs qs), LR wl (b.gone.map wayD)]
section
variable {o : Addr} {b : Bk} {R : List Res} {H : Hp}
theorem OwnB.open (S : Sat H (OwnB o b :: R)) : ∃ d wl, ∃ qs : List ((Nat × Shp) × V), qs.map (·.1) = b.shapes ∧ Sat H (pts o (.lst [.ref d, .int (b.next : Int), .ref wl]) :: pts d (.dK (qs.map shKV)) :: DsR (shLDs qs) (shVs qs) :: LR wl (b.gone.map wayD) :: R) := by
  obtain ⟨d, S⟩ := Sat.ex.mp S
  obtain ⟨wl, S⟩ := Sat.ex.mp S
  obtain ⟨qs, S⟩ := Sat.ex.mp S
  obtain ⟨e, S⟩ := Sat.pure.mp (Sat.all.mp S)
  exact ⟨d, wl, qs, e, S⟩
theorem OwnB.close {d wl : Addr} {qs : List ((Nat × Shp) × V)} (e : qs.map (·.1) = b.shapes) (S : Sat H (pts o (.lst [.ref d, .int (b.next : Int), .ref wl]) :: pts d (.dK (qs.map shKV)) :: DsR (shLDs qs) (shVs qs) :: LR wl (b.gone.map wayD) :: R)) : Sat H (OwnB o b :: R) :=
  Sat.ex.mpr ⟨d, Sat.ex.mpr ⟨wl, Sat.ex.mpr ⟨qs, Sat.all.mpr (Sat.pure.mpr ⟨e, S⟩)⟩⟩⟩
/-- own[0][k], a shape there -/
theorem OwnB.get {k : Nat} {s : Shp} (S : Sat H (OwnB o b :: R)) (h : b.get k = some s) : ∃ d wl kvs v, Sat H (DR (.tup (shL s)) v :: OwnB o b :: R) ∧ H o = some (.lst [.ref d, .int (b.next : Int), .ref wl]) ∧ H d = some (.dK kvs) ∧ valV kvs (Sum.inl (k : Int)) = some v := by
  refine QBox.out ?_
  simp (disch :=
  refine qkeep ?_
  with_unfolding_all
  obtain ⟨d, wl, qs, e, S⟩ := OwnB.open S
  obtain ⟨i, v, hq, hv⟩ := sh_get e h
  have h1 := S.read
  have h2 := S.drop.read
  obtain ⟨v', hv', S1⟩ := DsR.at (S.pick (A := DsR (shLDs qs) (shVs qs)) (.there (.there .here))) (map_at (f := shLD) hq)
  rw [show (shVs qs)[i]? = some v from map_at (f := fun q : (Nat × Shp) × V => q.2) hq] at hv'
  cases hv'
  refine ⟨d, wl, _, v, ?_, h1, h2, hv⟩
  have S2 := OwnB.close (R := DR (.tup (shL s)) v :: R) e (S1.to (.cons (.there (.there .here)) (.cons (.there (.there .here)) (.cons (.there .here) (.cons (.there .here) (.cons .here .refl))))))
  exact S2.perm (List.Perm.swap _ _ _)
  ) only [↓qboxT]

end
/-- every number below the next one is there -/
def Full (b : Bk) : Prop := b.shapes.map (·.1) = List.range b.next
theorem Full.get {b : Bk} {k : Nat} (h : Full b) (hk : k < b.next) : ∃ s, b.get k = some s := by
  refine QBox.out ?_
  simp (disch :=
  refine qkeep ?_
  with_unfolding_all
  cases hg : b.get k with
  | some s => exact ⟨s, rfl⟩
  | none =>
    have hm : k ∈ b.shapes.map (·.1) := by rw [show b.shapes.map (·.1) = List.range b.next from h]; exact List.mem_range.mpr hk
    obtain ⟨p, hp, e⟩ := List.mem_map.mp hm
    exact absurd e (get_none' hg p hp)
  ) only [↓qboxT]

theorem Full.len {b : Bk} (h : Full b) : b.shapes.length = b.next := by
  have := congrArg List.length (show b.shapes.map (·.1) = List.range b.next from h)
  rw [List.length_map, List.length_range] at this
  exact this
end Q
namespace Q
open PySem PySem.Spec PyProof.Rows L2
theorem forIn_gather17 (f : (Option (Sem Value) × Sem Value) → (Option Addr × List (Sem Value × Sem Value)) → Sem (ForInStep (Option Addr × List (Sem Value × Sem Value))))
    (hf : ∀ (p : Sem Value × Sem Value) (run : List (Sem Value × Sem Value)), run.length + 1 < 17 → f (some p.1, p.2) (none, run) = pure (.yield (none, run ++ [p])))
    (hl : ∀ (p : Sem Value × Sem Value) (run : List (Sem Value × Sem Value)), run.length + 1 = 17 → f (some p.1, p.2) (none, run) = (do let d ← subDict (run ++ [p]); pure (.yield (some d, [])))) :
    ∀ (items run : List (Sem Value × Sem Value)), items ≠ [] → run.length + items.length = 17 → forIn (items.map fun p => (some p.1, p.2)) ((none : Option Addr), run) f = (do let d ← subDict (run ++ items); pure (some d, []))
  | [], run, h, _ => absurd rfl h
  | [p], run, _, h => by
    rw [List.map_cons, List.forIn_cons, hl p run (by simpa using h)]
    simp
  | p :: q :: rest, run, _, h => by
    rw [List.map_cons, List.forIn_cons, hf p run (by simp at h; omega), pure_bind]
    have := forIn_gather17 f hf hl (q :: rest) (run ++ [p]) (by simp) (by simp at h ⊢; omega)
    simpa using this
theorem dictDisplay17 (pairs : List (Sem Value × Sem Value)) (hlen : pairs.length = 17) :
    dictDisplay (pairs.map fun p => (some p.1, p.2)) = (do let d ← subDict pairs; pure (.ref d)) := by
  have h0 : pairs ≠ [] := fun e => by rw [e] at hlen; cases hlen
  unfold dictDisplay
  dsimp only
  rw [forIn_gather17 _ (fun p run h => by
    have hne : ((run ++ [(p.1, p.2)]).length == 17) = false := by simp; omega
    simp only [hne, Bool.false_eq_true, if_false]) (fun p run h => by
    have hne : ((run ++ [(p.1, p.2)]).length == 17) = true := by simp; omega
    have he : (run ++ [(p.1, p.2)]).isEmpty = false := by cases run <;> rfl
    simp only [hne, if_true, he]
    simp) pairs [] h0 (by simpa using hlen)]
  simp
section
variable {prog : Program} {w : World} {A : Around} {E : Value → Shared → Prop} {s : Shared}
def lBody (d : Addr) (x : Sem Value × Sem Value) : Sem (ForInStep PUnit) := do
  let kv ← x.1
  let vv ← holding [kv] x.2
  holding [kv, vv] (dictSet d kv vv)
  pure (ForInStep.yield PUnit.unit)
theorem subDict_long {pairs : List (Sem Value × Sem Value)} {Q : Addr → Shared → Prop} (hlen : 15 < pairs.length)
    (h : wpAny (model prog w) A (forIn pairs PUnit.unit fun x _ => lBody s.heap.objs.size x) (fun _ s' => Q s.heap.objs.size s') E { s with heap := s.heap.push { cls := .type "dict", data := .dict #[] } }) :
    wpAny (model prog w) A (subDict pairs) Q E s := by
  unfold subDict
  refine wpAny_bind (wpAny_alloc ?_)
  refine wpAny_bind (wpAny_holding ?_)
  rw [if_neg (by omega)]
  refine wpAny_bind (wpAny_rule ?_)
  exact wpAny_bind (wpAny_mono h (fun _ s' q => wpAny_pure (wpAny_pure q)) fun _ _ e => e)
end
section
variable {X : Cx} {pins : List (Addr × Obj)} {σ : L2.St} {H : Hp} {s : Shared} {a : Addr} {k : Key} {v : V} {u r : Value} {kvs : List (Key × V)} {E : Value → Shared → Prop} {A : Around}
theorem d_dictSet {Q : Unit → Shared → Prop} (I : Inv X pins σ H s) (e : H a = some (.dK kvs)) (l : kvs.length < sizeLine) (ry : RelV (kV k) u) (rv : RelV v r) (h : ∀ s', Inv X pins σ (upd H a (.dK (putK kvs k v))) s' → Q () s') :
    wpAny (model X.prog X.w) A (dictSet a u r) Q E s := by
  obtain ⟨z, hd, vs, rel, dd⟩ := dk_of I.hok e
  have hz : vs.length ≤ sizeLine := by rw [← rel.length]; exact z
  have hl : (putK kvs k v).length ≤ sizeLine := by have := length_putK kvs k v; omega
  refine wpAny_dictSet_pairs (hsz := hz) (kV_is ry) dd fun h' dd' hs => h _ ?_
  have he : ∃ q, h'.get? a = some q := let ⟨q, _, _, hq, _⟩ := dd'; ⟨q, hq⟩
  exact d_write I (by rw [e]; exact True.intro) hs he (dk_new hl hd (rel.put k rv) dd')
end
/-- the pairs of a long display: each is put as it is made -/
def tLong : List (TE × TE) → Addr → L2.St → Hp → (Hp → Prop) → Prop
  | [], _, _, H, Q => Q H
  | (tk, tv) :: r, p, σ, H, Q => tk σ H fun x H1 => tv σ H1 fun y H2 => ∃ k kvs, x = kV k ∧ H2 p = some (.dK kvs) ∧ kvs.length < sizeLine ∧ tLong r p σ (upd H2 p (.dK (putK kvs k y))) Q
structure PPL (X : Cx) (pos : Pos) (keys : List (Option Expr)) (values : List Expr) (trs : List (TE × TE)) : Prop where
  run : ∀ (p : Addr) (pins : List (Addr × Obj)) (s : Shared) (σ : L2.St) (H : Hp) (Q : Hp → Prop), Inv X pins σ H s → tLong trs p σ H Q →
    wpAny (model X.prog X.w) X.A (forIn (pairTrees keys values X.env pos) PUnit.unit fun x _ => lBody p x) (fun _ s' => ∃ H', Inv X pins σ H' s' ∧ Q H') X.xe s
theorem ppl_nil {X : Cx} {pos : Pos} : PPL X pos [] [] [] := ⟨fun p pins s σ H Q I h => by
  show wpAny _ _ (forIn [] PUnit.unit fun x _ => lBody p x) _ _ _
  rw [List.forIn_nil]
  exact wpAny_pure ⟨H, I, h⟩⟩
theorem ppl_cons {X : Cx} {pos : Pos} {k v : Expr} {ks : List (Option Expr)} {vs : List Expr} {tk tv : TE} {trs : List (TE × TE)} (hk : PE X k tk) (hv : PE X v tv) (hr : PPL X pos ks vs trs) :
    PPL X pos (some k :: ks) (v :: vs) ((tk, tv) :: trs) := ⟨fun p pins s σ H Q I h => by
  show wpAny _ _ (forIn ((eval k X.env, do let x ← eval v X.env; standAt pos; pure x) :: pairTrees ks vs X.env pos) PUnit.unit fun x _ => lBody p x) _ _ _
  rw [List.forIn_cons]
  refine wpAny_bind ?_
  unfold lBody
  refine wpAny_bind (thn (hk.run pins s σ H _ I h) fun u s1 ⟨x, H1, I1, rx, q1⟩ => ?_)
  refine wpAny_bind (wpAny_holding (wpAny_bind (thn (hv.run pins s1 σ H1 _ I1 q1) fun w2 s2 ⟨y, H2, I2, ry, kk, kvs, ex, e, l, q2⟩ => wpAny_bind (wpAny_standAt (wpAny_pure ?_)))))
  subst ex
  refine wpAny_bind (wpAny_holding (d_dictSet I2 e l rx ry fun s3 I3 => ?_))
  exact wpAny_pure (hr.run p pins s3 σ _ Q I3 q2)⟩
def tDispL (trs : List (TE × TE)) : TE := fun σ H Q => ∀ p, H p = none → tLong trs p σ (upd H p (.dK [])) fun H2 => Q (.ref p) H2
theorem pe_dispL {X : Cx} {pos : Pos} {keys : List (Option Expr)} {values : List Expr} {trs : List (TE × TE)} (h : PPL X pos keys values trs) (hall : keys.all (·.isSome) = true) (hl : keys.length = values.length)
    (h17 : keys.length = 17) : PE X (.Dict keys values pos) (tDispL trs) := by
  refine ⟨fun pins s σ H Q I q => ?_⟩
  have hn := I.hok.fresh (Nat.le_refl s.heap.objs.size)
  have I1 := I.laid (a := s.heap.objs.size) (o := .dK []) (h' := s.heap.push { cls := .type "dict", data := .dict #[] }) (t' := s.toks) (fun _ _ q => Heap.get?_push_of_some _ q) (Nat.le_refl _) (dk_empty s.heap I.big)
  have hp := pairTrees_length keys values X.env pos hall hl
  rw [arm_eval_Dict, zip_pairTrees keys values X.env pos hall hl, dictDisplay17 _ (by rw [hp]; exact h17)]
  refine wpAny_bind (wpAny_standAt (wpAny_bind (subDict_long (by rw [hp]; omega) ?_)))
  exact thn (h.run _ pins _ σ _ _ I1 (q _ hn)) fun _ s2 ⟨H2, I2, q2⟩ => wpAny_pure ⟨.ref _, H2, I2, rfl, q2⟩
def rListD : List V → Hp → VK → Prop := fun xs H Q => ∃ (a : Addr) (kvs : List (Key × V)), xs = [.ref a] ∧ Rd H a (.dK kvs) ∧ ∀ p, H p = none → Q (.ref p) (upd H p (.lst (kvs.map fun kv => kV kv.1)))
theorem call_listD {X : Cx} (hcalm : X.calm = true) : CallR X (.type "list") rListD := by
  refine QBox.out ?_
  simp (disch :=
  refine qkeep ?_
  with_unfolding_all
  intro pins s σ H xs us Q I r q
  obtain ⟨a, kvs, ex, hd, q⟩ := q
  subst ex
  obtain ⟨u, eu, rx⟩ := vals1 r
  subst eu
  cases rx
  obtain ⟨z, lo, vs, rel, dd⟩ := dk_rd I.hok hd
  obtain ⟨ep, hat⟩ := dd.dictAt
  have h16 : vs.length ≤ sizeLine := by rw [← rel.length]; exact z
  refine PySem.W.kdl_call (PySem.W.kdl_dict (knd := mixKind X.prog X.w) (kvs := vs) (ep := ep) lo) (I.ok.hd hcalm) hat h16 fun h' tk acc c' hk hS hacc => ?_
  have hv : Vals (kvs.map fun kv => kV kv.1) acc.toList := by
    refine vals_of_at (by rw [List.length_map, rel.length]; exact hacc.1.symm.trans Array.length_toList.symm) fun j x v e1 e2 => ?_
    obtain ⟨k, y, e3, e4⟩ := hacc.2 j v (by rw [← Array.getElem?_toList]; exact e2)
    have e5 : (vs.map (·.1))[j]? = some k := by rw [List.getElem?_map, e3]; rfl
    rw [← rel.keys, List.getElem?_map] at e5
    rw [List.getElem?_map] at e1
    cases e6 : kvs[j]? with
    | none => rw [e6] at e5; cases e5
    | some q =>
      rw [e6] at e5 e1
      have e7 : q.1 = k := Option.some.inj e5
      have e8 : kV q.1 = x := Option.some.inj e1
      rw [← e8, e7]
      rcases keyIs_shape (show keyIs k v = true from e4) with ⟨i, t, ek, ev⟩ | ⟨z, t, ek, ev⟩
      · subst ek ev
        exact ⟨t, rfl⟩
      · subst ek ev
        exact ⟨t, rfl⟩
  exact ⟨.ref s.heap.objs.size, _, I.laid (t' := tk) hk (Nat.le_refl _) (show ObjOk X.prog X.w _ h' _ (.lst (kvs.map fun kv => kV kv.1)) from ⟨by rw [List.length_map]; exact z, acc.toList, c', hv, by simpa using hS⟩), rfl, q _ (I.hok.fresh (Nat.le_refl _))⟩
  ) only [↓qboxT]

def tRevS (te : TE) : TE := fun σ H Q => te σ H fun x H1 => ∃ z, x = .str z ∧ z.length ≤ sizeLine ∧ ∀ z' : Str, z'.length ≤ z.length → (∀ c ∈ tl z', c ∈ tl z) → Q (.str z') H1
theorem rev_cnt (n : Nat) : (Builtin.Str.strSliceIndices none none (-1) n).length ≤ n := by
  refine QBox.out ?_
  simp (disch :=
  refine qkeep ?_
  with_unfolding_all
  unfold Builtin.Str.strSliceIndices sliceRange
  simp only [show ¬ ((-1 : Int) > 0) by decide, if_false, List.length_map, List.length_range]
  split <;> (try simp only [Int.neg_neg, Int.ediv_one]) <;> omega
  ) only [↓qboxT]

theorem pe_revS {X : Cx} {e : Expr} {te : TE} {k : Nat} {p1 p2 p3 pos : Pos} (he : PE X e te) : PE X (.Subscript e (.Slice none none (some (.UnaryOp .USub (.Constant (.int 1) k p1) p2)) p3) pos) (tRevS te) := by
  refine QBox.out ?_
  simp (disch :=
  refine qkeep ?_
  with_unfolding_all
  refine ⟨fun pins s σ H Q I h => ?_⟩
  refine Subscript_ (thn (he.run pins s σ H _ I h) fun v s1 ⟨x, H1, I1, r1, q1⟩ => ?_)
  obtain ⟨z, ex, hz, q⟩ := q1
  subst ex
  obtain ⟨t, rfl⟩ := r1
  have hst : PO X (some (.UnaryOp .USub (.Constant (.int 1) k p1) p2)) (tPart (tUn (rU fun i => .int (-i)) (tC (.int 1)))) := po_some (pe_un un_neg pe_int)
  refine wpAny_Slice (thn (po_none.run pins s1 σ H1 (fun o H2 => o = none ∧ H2 = H1) I1 ⟨rfl, rfl⟩) fun vl s2 ⟨l, H2, I2, pl, el, e2⟩ => ?_)
  subst el e2
  refine thn (po_none.run pins s2 σ H2 (fun o H3 => o = none ∧ H3 = H2) I2 ⟨rfl, rfl⟩) fun vu s3 ⟨u, H3, I3, pu, eu, e3⟩ => ?_
  subst eu e3
  refine thn (hst.run pins s3 σ H3 (fun o H4 => o = some (-1) ∧ H4 = H3) I3 ⟨1, rfl, -1, rfl, rfl, rfl⟩) fun vs s4 ⟨o, H4, I4, ps, eo, e4⟩ => ?_
  subst eo e4
  have I5 : Inv X pins σ H4 { s4 with heap := s4.heap.push { cls := .type "slice", data := .fields #[vl, vu, vs] } } := I4.kept (t' := s4.toks) fun b ob q => Heap.get?_push_of_some _ q
  show wpAny (model X.prog X.w) X.A (subscriptTail e (.Slice none none (some (.UnaryOp .USub (.Constant (.int 1) k p1) p2)) p3) (.str z t) (.ref s4.heap.objs.size)) (L2.EP X pins σ Q) X.xe { s4 with heap := s4.heap.push { cls := .type "slice", data := .fields #[vl, vu, vs] } }
  refine tail_any (ops := [.str z t, .ref s4.heap.objs.size]) (typeIs_str _ _ _) (PySem.F.slot_str_getitem.lookup) ?_ (by with_unfolding_all rfl)
  obtain ⟨l, hvl, el⟩ := IsPart.raw pl
  obtain ⟨u, hvu, eu⟩ := IsPart.raw pu
  obtain ⟨st, hvs, es⟩ := IsPart.raw ps
  subst hvl hvu hvs
  have hl0 : l = none := Option.map_eq_none_iff.mp el
  have hu0 : u = none := Option.map_eq_none_iff.mp eu
  subst hl0 hu0
  refine wpAny_getItem_str_slice (l := none) (u := none) (st := st) ⟨_, Heap.get?_push_size _ rfl, rfl, rfl⟩ (by rw [es]; rfl) ?_
  have hlen : (⟨((Builtin.Str.strSliceIndices none none (-1) z.length).filterMap (z.cps[·]?)).toArray⟩ : Str).length ≤ z.length := by
    show (List.toArray _).size ≤ _
    rw [List.size_toArray]
    exact Nat.le_trans (List.length_filterMap_le _ _) (rev_cnt _)
  have hsub : ∀ c ∈ tl (⟨((Builtin.Str.strSliceIndices none none (-1) z.length).filterMap (z.cps[·]?)).toArray⟩ : Str), c ∈ tl z := fun c hc => by
    have hc : c ∈ (Builtin.Str.strSliceIndices none none (-1) z.length).filterMap (z.cps[·]?) := by simpa [tl] using hc
    obtain ⟨i, _, hi⟩ := List.mem_filterMap.mp hc
    have := Array.mem_of_getElem? hi
    simpa [tl] using this
  unfold sliceMade slicePicked
  rw [es]
  show Made.post (if ((-1 : Int) == 1 && _) = true then _ else Made.str ⟨((Builtin.Str.strSliceIndices none none (-1) z.length).filterMap (z.cps[·]?)).toArray⟩) _ _
  rw [if_neg (by simp)]
  exact ⟨Nat.le_trans hlen hz, .str _, H4, I5.tok _, ⟨_, rfl⟩, q _ hlen hsub⟩
  ) only [↓qboxT]

theorem slice_mid {y : Str} {i j : Int} (h : 0 ≤ i) (hi : i ≤ y.length) (hj : i ≤ j) : Txt.slice y (some i) (some j) = SX.S (((tl y).drop i.toNat).take (j - i).toNat) := by
  refine QBox.out ?_
  simp (disch :=
  refine qkeep ?_
  with_unfolding_all
  have hn : ((tl y).length : Int) = y.length := by rw [tl_len]
  by_cases hk : j ≤ y.length
  · exact beq_iff_eq.mp (PyProof.Rows.slice_closesL (x := y) h hj hk)
  · have e2 : Txt.slice y (some i) (some j) = Txt.slice y (some i) (some (y.length : Int)) := by
      unfold Txt.slice
      rw [SX.idx_hi (by omega)]
    have e := beq_iff_eq.mp (PyProof.Rows.slice_closesL (x := y) h hi (Int.le_refl _))
    refine (e2.trans e).trans ?_
    show SX.S (((tl y).drop i.toNat).take ((y.length : Int) - i).toNat) = _
    rw [List.take_of_length_le (by rw [List.length_drop, tl_len]; omega), List.take_of_length_le (by rw [List.length_drop, tl_len]; omega)]
  ) only [↓qboxT]

end Q
namespace Q
open PySem PySem.Spec PyProof.Rows L2
end Q
namespace Q
open PySem PySem.Spec PyProof.Rows L2
abbrev abc : Str := "abcdefghijklmnopqrstuvwxyz"
def AzOk (z : Str) : Prop := ∀ c ∈ tl z, c ∈ tl abc
theorem AzOk.app {y z : Str} (a : AzOk y) (b : AzOk z) : AzOk (y ++ z) := fun c hc => by
  rw [tl_app] at hc
  exact (List.mem_append.mp hc).elim (a c) (b c)
theorem AzOk.one {c : Nat} (h : c ∈ tl abc) : AzOk ⟨#[c]⟩ := fun d hd => by
  have : d = c := by simpa using hd
  rw [this]
  exact h
theorem AzOk.S {cs : List Nat} (h : ∀ c ∈ cs, c ∈ tl abc) : AzOk (SX.S cs) := fun c hc => h c (by simpa [SX.S] using hc)
theorem AzOk.to {y : Str} {i : Int} (a : AzOk y) (h : 0 ≤ i) : AzOk (Txt.slice y none (some i)) := fun c hc => by
  have e := SX.slice_to (a := tl y) h
  rw [SX.S_tl] at e
  rw [e] at hc
  exact a c (List.mem_of_mem_take (by simpa [SX.S] using hc))
theorem AzOk.from {y : Str} {i : Int} (a : AzOk y) (h : 0 ≤ i) : AzOk (Txt.slice y (some i) none) := fun c hc => by
  have e := SX.slice_from (a := tl y) h
  rw [SX.S_tl] at e
  rw [e] at hc
  exact a c (List.mem_of_mem_drop (by simpa [SX.S] using hc))
theorem abc_lt : ∀ c ∈ tl abc, c < 1114112 := (txOk_by (z := abc) (n := 26) (by decide +kernel)).sg
theorem AzOk.sg {z : Str} (a : AzOk z) : okS z := fun c hc => abc_lt c (a c hc)
theorem len_app (x y : Str) : (x ++ y).length = x.length + y.length := by
  rw [← tl_len, ← tl_len, ← tl_len, tl_app, List.length_append]
theorem len_to {y : Str} {i : Int} (h : 0 ≤ i) : (Txt.slice y none (some i)).length = min i.toNat y.length := by
  have e := SX.slice_to (a := tl y) h
  rw [SX.S_tl] at e
  rw [e, ← tl_len, ← tl_len]
  simp [SX.S]
theorem len_from {y : Str} {i : Int} (h : 0 ≤ i) : (Txt.slice y (some i) none).length = y.length - i.toNat := by
  have e := SX.slice_from (a := tl y) h
  rw [SX.S_tl] at e
  rw [e, ← tl_len, ← tl_len]
  simp [SX.S]
theorem w_slLP {K : PySem.W.Frag} {H : Hp} {Z : VK} {As : List Res} {a : Addr} {xs : List V} {lo hi : Option Int} (S : Sat H As) (h : H a = some (.lst xs)) (k : ∀ p H', Sat H' (pts p (.lst (cutV xs lo hi)) :: As) → Z (.ref p) H') : rSlU K (.ref a) lo hi H Z :=
  w_slL h fun p hp => k p _ (S.new hp)
end Q
namespace Q
open PySem PySem.Spec PyProof.Rows L2
/-- a name: one to eight letters -/
def nmA (s : Str) : Prop := 1 ≤ s.length ∧ s.length ≤ 8 ∧ AzOk s
theorem nmA.sg {s : Str} (h : nmA s) : okS s := h.2.2.sg
inductive SRow where
  | set (r : Int) (n : Int)
  | plus (a : Int) (b : Int) (c : Int)
  | make (r : Int)
  | under (r : Int) (q : Int)
  | put (r : Int) (nm : Str) (w : Int)
  | ask (r : Int) (q : Int) (nm : Str) (t : Int)
  | out (r : Int) (nm : Str)
  | fix (r : Int) (nm : Str)
  | shut (r : Int)
  | gather (r : Int)
  | turn (r : Int) (q : Int)
  | free (r : Int)
  | sweep
  | tell (r : Int)
  | zero (r : Int) (t : Int)
  | jump (t : Int)
  | fin
/-- a row's word and parts -/
def SRow.vs : SRow → List V
  | .set r n => [.str "set", .int r, .int n]
  | .plus a b c => [.str "plus", .int a, .int b, .int c]
  | .make r => [.str "make", .int r]
  | .under r q => [.str "under", .int r, .int q]
  | .put r nm w => [.str "put", .int r, .str nm, .int w]
  | .ask r q nm t => [.str "ask", .int r, .int q, .str nm, .int t]
  | .out r nm => [.str "out", .int r, .str nm]
  | .fix r nm => [.str "fix", .int r, .str nm]
  | .shut r => [.str "shut", .int r]
  | .gather r => [.str "gather", .int r]
  | .turn r q => [.str "turn", .int r, .int q]
  | .free r => [.str "free", .int r]
  | .sweep => [.str "sweep"]
  | .tell r => [.str "tell", .int r]
  | .zero r t => [.str "zero", .int r, .int t]
  | .jump t => [.str "jump", .int t]
  | .fin => [.str "end"]
/-- each part within its bounds, in a script of m rows -/
def SRow.ok (m : Int) : SRow → Prop
  | .set r _ => (0 ≤ r ∧ r < 8)
  | .plus a b c => (0 ≤ a ∧ a < 8) ∧ (0 ≤ b ∧ b < 8) ∧ (0 ≤ c ∧ c < 8)
  | .make r => (0 ≤ r ∧ r < 8)
  | .under r q => (0 ≤ r ∧ r < 8) ∧ (0 ≤ q ∧ q < 8)
  | .put r nm w => (0 ≤ r ∧ r < 8) ∧ nmA nm ∧ (0 ≤ w ∧ w < 8)
  | .ask r q nm t => (0 ≤ r ∧ r < 8) ∧ (0 ≤ q ∧ q < 8) ∧ nmA nm ∧ (0 ≤ t ∧ t < m)
  | .out r nm => (0 ≤ r ∧ r < 8) ∧ nmA nm
  | .fix r nm => (0 ≤ r ∧ r < 8) ∧ nmA nm
  | .shut r => (0 ≤ r ∧ r < 8)
  | .gather r => (0 ≤ r ∧ r < 8)
  | .turn r q => (0 ≤ r ∧ r < 8) ∧ (0 ≤ q ∧ q < 8)
  | .free r => (0 ≤ r ∧ r < 8)
  | .sweep => True
  | .tell r => (0 ≤ r ∧ r < 8)
  | .zero r t => (0 ≤ r ∧ r < 8) ∧ (0 ≤ t ∧ t < m)
  | .jump t => (0 ≤ t ∧ t < m)
  | .fin => True
theorem SRow.ok.mono {m m' : Int} {r : SRow} (h : r.ok m) (l : m ≤ m') : r.ok m' := by
  cases r <;> unfold SRow.ok at h ⊢ <;> first
    | exact h
    | exact ⟨h.1, h.2.1, h.2.2.1, by have := h.2.2.2; omega⟩
    | exact ⟨h.1, by have := h.2; omega⟩
    | exact ⟨h.1, by omega⟩
def isSc : Dt → Bool
  | .lst _ | .tup _ => false
  | _ => true
def unV : Dt → V
  | .non => .non
  | .bl b => .bl b
  | .int i => .int i
  | .str x => .str x
  | _ => .non
theorem DG.sc {L : LK} {d : Dt} {v : V} (h : DG L d v) (s : isSc d = true) : v = unV d := by
  cases h <;> first | rfl | cases s
theorem DG.ofSc {L : LK} {d : Dt} (s : isSc d = true) : DG L d (unV d) := by
  cases d with
  | non => exact .non
  | bl b => exact .bl b
  | int i => exact .int i
  | str x => exact .str x
  | lst _ => cases s
  | tup _ => cases s
theorem DsG.sc {L : LK} : ∀ {ds : List Dt} {vs : List V}, DsG L ds vs → ds.all isSc = true → vs = ds.map unV
  | [], vs, h, _ => by cases h; rfl
  | d :: ds, vs, h, s => by
    rw [List.all_cons, Bool.and_eq_true] at s
    cases h with
    | cons x t => rw [DG.sc x s.1, DsG.sc t s.2]; rfl
theorem DsG.ofSc {L : LK} : ∀ {ds : List Dt}, ds.all isSc = true → DsG L ds (ds.map unV)
  | [], _ => .nil
  | d :: ds, s => by
    rw [List.all_cons, Bool.and_eq_true] at s
    exact .cons (DG.ofSc s.1) (DsG.ofSc s.2)
end Q
namespace Q
open PySem PySem.Spec PyProof.Rows L2
/-- a != b, two lists of the same objects -/
def rNeRefs (K : PySem.W.Frag) : R2 := fun x y H Q => ∃ (a b : Addr) (as : List Addr), x = .ref a ∧ y = .ref b ∧ SqL K H a (as.map V.ref) ∧ SqL K H b (as.map V.ref) ∧ Q (.bl false) H
theorem vals_refs : ∀ {as : List Addr} {us : List Value}, Vals (as.map V.ref) us → us = as.map Value.ref
  | [], _, h => by cases h; rfl
  | a :: as, _, h => by
    cases h with
    | cons a1 b1 =>
      cases (show _ = Value.ref a from a1)
      rw [vals_refs b1]
      rfl
theorem op_neRefs {X : Cx} (hu : X.A.units + 64 < cLine) : OpR X (compareOp .NotEq) (rNeRefs X.K) := by
  refine QBox.out ?_
  simp (disch :=
  refine qkeep ?_
  with_unfolding_all
  intro pins s σ H x y v u Q I rx ry h
  obtain ⟨a, b, as, rfl, rfl, ha, hb, q⟩ := h
  cases (show v = Value.ref a from rx)
  cases (show u = Value.ref b from ry)
  obtain ⟨us, r1, p1, _⟩ := I.list ha
  obtain ⟨ws, r2, p2, _⟩ := I.list hb
  cases vals_refs r1
  cases vals_refs r2
  have k := SeqAt.RcNeAt.lists (A := X.A) (e := fun _ => true) p1.isList p2.isList rfl (by omega) (fun j h1 h2 => by
    have e : ((as.map Value.ref).toArray)[j] = Value.ref (as[j]'(by simpa using h1)) := by simp
    rw [e]
    exact SeqAt.EqAt.same _) X.prog X.w
  rw [show (!(List.range (as.map Value.ref).toArray.size).all fun _ => true) = false from by
    rw [show ((List.range (as.map Value.ref).toArray.size).all fun _ => true) = true from List.all_eq_true.mpr fun _ _ => rfl]; rfl] at k
  exact k _ _ ⟨.bl false, H, I, rfl, q⟩
  ) only [↓qboxT]

section
variable {K : PySem.W.Frag} {H : Hp} {Q : VK} {a b : Addr}
theorem w_neRefs {as : List Addr} (h : H a = some (.lst (as.map V.ref))) (h0 : H b = some (.lst (as.map V.ref))) (k : Q (.bl false) H) : rNeRefs K (.ref a) (.ref b) H Q := ⟨a, b, as, rfl, rfl, .of h, .of h0, k⟩
end
end Q
namespace Q
open PySem PySem.Spec PyProof.Rows L2
def bgEnt (w : World) (q : (Str × Str) × (Nat × Nat)) : DictEntry := { hash := hashStr w q.1.1, key := .str q.1.1 q.2.1, val := .str q.1.2 q.2.2 }
/-- a dict object that holds these texts -/
def DObj (w : World) (o : Obj) (l : List (Str × Str)) : Prop := ∃ ts : List (Nat × Nat), ts.length = l.length ∧ o.ExactDict ∧ ∃ ep, o.data = .dict ((l.zip ts).map (bgEnt w)).toArray ep
/-- a name of the module stands for it -/
structure BDc (w : World) (K : PySem.W.Frag) (mg : Str → Option Value) (x : Str) (l : List (Str × Str)) : Prop where
  ex : ∃ d o, mg x = some (.ref d) ∧ K.lookup d = some o ∧ DObj w o l ∧ (d == sysModules) = false
def bgKV (q : Str × Str) : Key × V := (.inr q.1, .str q.2)
def tBGet (l : List (Str × Str)) (ty : TE) : TE := fun σ H Q => ty σ H fun y H2 => ∃ q : Key, y = kV q ∧ Q ((valV (l.map bgKV) q).getD .non) H2
theorem w_bget {l : List (Str × Str)} {ty : TE} {σ : L2.St} {H : Hp} {Q : VK} (h : ty σ H fun y H2 => ∃ q : Key, y = kV q ∧ Q ((valV (l.map bgKV) q).getD .non) H2) : tBGet l ty σ H Q := h
theorem bg_pairs {P : Program} {w : World} : ∀ {l : List (Str × Str)} {ts : List (Nat × Nat)}, ts.length = l.length → ∃ vs : List (Key × Value), KV (l.map bgKV) vs ∧ Pairs (mixKind P w) ((l.zip ts).map (bgEnt w)) vs ∧ vs.map (·.1) = l.map fun q => Sum.inr q.1
  | [], [], _ => ⟨[], .nil, .nil, rfl⟩
  | [], _ :: _, h => nomatch h
  | _ :: _, [], h => nomatch h
  | q :: l, t :: ts, h => by
    obtain ⟨vs, h1, h2, h3⟩ := bg_pairs (P := P) (w := w) (l := l) (ts := ts) (Nat.succ.inj h)
    refine ⟨(.inr q.1, .str q.2 t.2) :: vs, .cons ⟨rfl, ⟨t.2, rfl⟩⟩ h1, .cons ?_ rfl h2, ?_⟩
    · show Value.isStrOf q.1 (.str q.1 t.1) = true
      simp [Value.isStrOf]
    · rw [List.map_cons, List.map_cons, h3]
theorem bg_dict {P : Program} {w : World} {h : Heap} {d : Addr} {o : Obj} {l : List (Str × Str)} (e : h.get? d = some o) (D : DObj w o l) (nd : (l.map (·.1)).Nodup) : ∃ vs, KV (l.map bgKV) vs ∧ h.DictOf (mixKind P w) d vs := by
  refine QBox.out ?_
  simp (disch :=
  refine qkeep ?_
  with_unfolding_all
  obtain ⟨ts, ht, hx, ep, hd⟩ := D
  obtain ⟨vs, h1, h2, h3⟩ := bg_pairs (P := P) (w := w) ht
  refine ⟨vs, h1, o, _, ep, e, hx, hd, fun en hen => ?_, by simpa using h2, ?_⟩
  · have hen : en ∈ (l.zip ts).map (bgEnt w) := by simpa using hen
    obtain ⟨q, _, rfl⟩ := List.mem_map.mp hen
    refine ⟨.inr q.1.1, ?_, rfl⟩
    show Value.isStrOf q.1.1 (.str q.1.1 q.2.1) = true
    simp [Value.isStrOf]
  · rw [h3]
    have := nd
    rw [show (l.map fun q => (Sum.inr q.1 : Key)) = (l.map (·.1)).map Sum.inr by rw [List.map_map]; rfl]
    exact this.map _ fun a b hab e => hab (Sum.inr.inj e)
  ) only [↓qboxT]

section
variable {X : Cx} {x : Str} {l : List (Str × Str)} {e : Expr} {p apos cpos : Pos} {ty : TE}
theorem pe_bget (hu : X.A.units + 1 < cLine) (b : BDc X.w X.K X.mg x l) (nd : (l.map (·.1)).Nodup) (hg : Gl X x) (he : PE X e ty) (m : M1 X (.Name x p) "get" apos e cpos) (d1 : (x == ("__debug__" : Str)) = false := by decide) : PE X (.Call (.Attribute (.Name x p) "get" apos) [e] [] cpos) (tBGet l ty) := by
  refine QBox.out ?_
  simp (disch :=
  refine qkeep ?_
  with_unfolding_all
  obtain ⟨d, o, hm, hk, D, hs⟩ := b.ex
  refine ⟨fun pins s σ H Q I h => ?_⟩
  have at' : ∀ {σ : L2.St} {H : Hp} {s : Shared}, Inv X pins σ H s → s.heap.get? d = some o := fun I => I.bk d o (I.ok.mod.kin _ _ hk)
  refine wpAny_Call_method m.base m.few m.line PySem.F.plainAttrs_dict PySem.F.slot_dict_get PySem.F.type_dict_get (thn ((pe_clsN (X := X) (pos := p) hg hm d1).run pins s σ H (fun v H1 => v = .ref d ∧ H1 = H) I ⟨rfl, rfl⟩) fun u s1 ⟨v, H1, I1, rx, ev, eH⟩ => ?_)
  subst ev eH
  obtain rfl : u = Value.ref d := rx
  obtain ⟨vs1, _, dd1⟩ := bg_dict (P := X.prog) (at' I1) D nd
  refine ⟨dd1.typeIs, fun b q => ?_, ?_⟩
  · cases q
    obtain ⟨ob, _, _, h1, h2, _⟩ := dd1
    exact ⟨ob, h1, h2.2.1⟩
  rw [m.trees]
  refine Calls.callWith_builtin rfl (Calls.evalArgs_plain (Calls.spliced_cons (thn (he.run pins s1 σ _ _ I1 h) fun iv s2 ⟨y, H2, I2, ry, q, ey, q2⟩ => Calls.spliced_nil ?_)))
  subst ey
  obtain ⟨vs, rel, dd⟩ := bg_dict (P := X.prog) (at' I2) D nd
  refine call_meetsIn PySem.F.slot_dict_get dd.typeIs PySem.F.entry_dict_get (PySem.F.args_dict_get_2 _ _) (meets_dict_get (mixKind X.prog X.w) d (kV_is ry) hs) ⟨_, dd.mapOf, ⟨_, H2, I2.tok _, ?_, q2⟩⟩
  exact (rel.val q).getD rfl
  ) only [↓qboxT]

end
end Q
namespace RZL
open PySem PySem.Spec PyProof.Rows L2
/-- the list at b as it stands at each turn, and a text, the items in new pairs -/
def ItzL (K : PySem.W.Frag) (b : Addr) (x : Str) : It :=
  ⟨fun i H => i < x.cps.size ∧ ∃ (ys : List V) (y : V), SqL K H b ys ∧ ys[i]? = some y,
    fun i H v H' => ∃ T c y, v = .ref T ∧ H T = none ∧ H' = upd H T (.tup [y, .str ⟨#[c]⟩]) ∧ x.cps[i]? = some c ∧ ∀ ys, SqL K H b ys → ys[i]? = some y,
    fun i H => ∃ ys : List V, SqL K H b ys ∧ i ≤ x.cps.size ∧ i ≤ ys.length ∧ (i = x.cps.size ∨ i = ys.length)⟩
theorem turn_zipL {P : Program} {w : World} {K : PySem.W.Frag} {elts : List Expr} {kk : Nat} {tpos : Pos} {x : Str} {t : Tok} {b z TI TO i1 i2 : Addr} (D : ZipSep2 z TI TO i1 i2 [i1, b] [i2]) :
    Turn P w K (.Tuple elts kk tpos) (ItzL K b x) [z, TI, TO, i1, i2] z (fun i h => IsZip h z TI TO .none ∧ IsPair h TI (.ref i1) (.ref i2) ∧ (∃ x y, IsPair h TO x y) ∧ h.IsListIter i1 b i ∧ h.IsStrIter i2 (strIterType x) x t i) where
  mem := by simp
  obj := fun i h st c hc => by
    obtain ⟨hz, hTI, ⟨x, y, hTO⟩, ⟨o1, e1, _, d1⟩, ⟨o2, e2, _, d2⟩⟩ := st
    have e' : c = z ∨ c = TI ∨ c = TO ∨ c = i1 ∨ c = i2 := by simpa using hc
    rcases e' with q | q | q | q | q
    · rw [q]; exact ⟨_, hz, fun v q => nomatch q⟩
    · rw [q]; exact ⟨_, hTI, fun v q => nomatch q⟩
    · rw [q]; exact ⟨_, hTO, fun v q => nomatch q⟩
    · rw [q]; exact ⟨o1, e1, fun v q => by rw [d1] at q; cases q⟩
    · rw [q]; exact ⟨o2, e2, fun v q => by rw [d2] at q; cases q⟩
  keep := fun i h h' st k => by
    obtain ⟨hz, hTI, ⟨x, y, hTO⟩, h1, ⟨o2, ho2, r2⟩⟩ := st
    exact ⟨k z (by simp) _ hz, k TI (by simp) _ hTI, ⟨x, y, k TO (by simp) _ hTO⟩, h1.at fun o q => k i1 (by simp) o q, ⟨o2, k i2 (by simp) o2 ho2, r2⟩⟩
  item := by
    intro X hP hw hK hc i pins s σ H E I hf st hg
    subst hP hw hK
    obtain ⟨hz, hTI, ⟨x0, y0, hTO⟩, h1, h2⟩ := st
    obtain ⟨hi, ys, y, hqy, hy⟩ := hg
    obtain ⟨its2, rv2, p2, _⟩ := I.list hqy
    obtain ⟨u2, hu2, ru2⟩ := rv2.get hy
    have hl2 : i < its2.toArray.size := by
      have := (List.getElem?_eq_some_iff.mp hu2).1
      simpa using this
    have hzl : z < s.heap.objs.size := Heap.lt_size hz
    have hh : X.A.in1.handled = none := I.ok.hd hc
    have hne : b ≠ i1 := fun e => by
      obtain ⟨o, ho, hcl, _⟩ := id p2.isList
      obtain ⟨o', ho', hcl', _⟩ := id h1
      rw [e, ho'] at ho
      cases ho
      rw [hcl'] at hcl
      injection hcl with q
      exact absurd q (by decide)
    refine wpAny_pyNext_zipD2_item D (Draws.list hh i1 b hne its2.toArray) (Draws.text hh i2 x t) hz hTI hTO ⟨h1, p2.isList⟩ h2 hl2 hi fun x2 x1 h' tk y2 y1 z' TO' h1' h2' hT hsz hk => ?_
    obtain ⟨c, u, hcx, rfl⟩ := y1
    obtain ⟨h1', _⟩ := h1'
    have e2 : x2 = u2 := by
      have y2 : its2.toArray[i]? = some x2 := y2
      have : its2.toArray[i]? = some u2 := by simpa using hu2
      rw [y2] at this
      exact Option.some.inj this
    subst e2
    refine ⟨_, rfl, wpAny_letOwnedTupleGo_zip (s := { s with heap := h', toks := tk }) z' fun h'' z'' sb => ?_⟩
    have hT2 : h''.get? s.heap.objs.size = some { cls := .type "tuple", data := .seq #[x2, .str ⟨#[c]⟩ u] } := (sb.2 _ (Nat.ne_of_gt hzl)).trans hT
    have new : ObjOk X.prog X.w (upd H s.heap.objs.size (.tup [y, .str ⟨#[c]⟩])) h'' s.heap.objs.size (.tup [y, .str ⟨#[c]⟩]) :=
      ⟨by show 2 ≤ sizeLine; decide, [x2, .str ⟨#[c]⟩ u], .cons ru2 (.cons ⟨u, rfl⟩ .nil), ⟨_, hT2, rfl, _, rfl⟩⟩
    have I1 : Inv X pins σ (upd H s.heap.objs.size (.tup [y, .str ⟨#[c]⟩])) { s with heap := h'', toks := tk } :=
      I.turnedNew (t' := tk) (ch := [z, TI, TO, i1, i2]) (fun c o hb q => (sb.2 c (fun q' => hb (by simp [q']))).trans (hk c o (fun q' => hb (by simp [q'])) (fun q' => hb (by simp [q'])) (fun q' => hb (by simp [q'])) (fun q' => hb (by simp [q'])) q)) hf (Nat.le_refl _) new
    have i1z : i1 ≠ z := D.zi1.symm
    have i2z : i2 ≠ z := D.zi2.symm
    refine ⟨.ref s.heap.objs.size, _, I1, rfl, ⟨_, c, y, rfl, I.hok.fresh (Nat.le_refl _), rfl, hcx, fun l hl => by rw [I.list_inj hl hqy]; exact hy⟩, ⟨z'', ?_, ⟨x2, .str ⟨#[c]⟩ u, ?_⟩, ?_, ?_⟩, fun c hcm => ?_⟩
    · exact (sb.2 _ D.TIz).trans (hk _ _ D.TIz D.TITO D.TIi1 D.TIi2 hTI)
    · exact (sb.2 _ D.TOz).trans TO'
    · exact h1'.at fun o q => (sb.2 _ i1z).trans q
    · obtain ⟨o, ho, r⟩ := h2'
      exact ⟨o, (sb.2 _ i2z).trans ho, r⟩
    · have hlt : c < s.heap.objs.size := by
        have e' : c = z ∨ c = TI ∨ c = TO ∨ c = i1 ∨ c = i2 := by simpa using hcm
        rcases e' with q | q | q | q | q
        · rw [q]; exact hzl
        · rw [q]; exact Heap.lt_size hTI
        · rw [q]; exact Heap.lt_size hTO
        · rw [q]; obtain ⟨_, e1, _⟩ := h1; exact Heap.lt_size e1
        · rw [q]; obtain ⟨_, e2, _⟩ := h2; exact Heap.lt_size e2
      rw [upd_ne (Nat.ne_of_lt hlt)]
      exact (hf c hcm).1
  done := by
    intro X hP hw hK hc i pins s σ H E I hf st hg
    subst hP hw hK
    obtain ⟨hz, hTI, ⟨x0, y0, hTO⟩, h1, h2⟩ := st
    obtain ⟨ys, hqy, l1, l2, hend⟩ := hg
    obtain ⟨its2, rv2, p2, _⟩ := I.list hqy
    have e2 : its2.toArray.size = ys.length := by
      have := rv2.length
      simp
      exact this.symm
    have hh : X.A.in1.handled = none := I.ok.hd hc
    have hne : b ≠ i1 := fun e => by
      obtain ⟨o, ho, hcl, _⟩ := id p2.isList
      obtain ⟨o', ho', hcl', _⟩ := id h1
      rw [e, ho'] at ho
      cases ho
      rw [hcl'] at hcl
      injection hcl with q
      exact absurd q (by decide)
    exact wpAny_pyNext_zipD2_end D (Draws.list hh i1 b hne its2.toArray) (Draws.text hh i2 x t) hz hTI hTO ⟨h1, p2.isList⟩ h2 (by rw [e2]; exact l2) l1 (by rw [e2]; exact hend.symm) fun h' tk hk => ⟨rfl, I.turnedL (t' := tk) (ch := [z, TI, TO, i1, i2]) (fun c o hb q =>
      hk c o (fun q' => hb (by simp [q'])) (fun q' => hb (by simp [q'])) (fun q' => hb (by simp [q'])) (fun q' => hb (by simp [q'])) q) hf⟩
  self := fun A i s Q E st h => wpAny_pyIter_zip st.1 h
theorem sepNL (n b : Nat) (hb : b < n) : ZipSep2 (n + 4) (n + 2) (n + 3) n (n + 1) [n, b] [n + 1] := by
  refine QBox.out ?_
  simp (disch :=
  refine qkeep ?_
  with_unfolding_all
  constructor <;> first
    | exact Nat.ne_of_lt (by omega)
    | exact Nat.ne_of_gt (by omega)
    | exact List.mem_cons_self
    | (intro h; rcases List.mem_cons.mp h with q | q
       · exact absurd q (Nat.ne_of_gt (by omega))
       · exact absurd (List.mem_singleton.mp q) (Nat.ne_of_gt (by omega)))
    | (intro h; rcases List.mem_cons.mp h with q | q
       · exact absurd q (Nat.ne_of_lt (by omega))
       · exact absurd (List.mem_singleton.mp q) (Nat.ne_of_gt (by omega)))
    | (intro h; rcases List.mem_cons.mp h with q | q
       · exact absurd q (Nat.ne_of_gt (by omega))
       · exact absurd q List.not_mem_nil)
    | (intro h; rcases List.mem_cons.mp h with q | q
       · exact absurd q (Nat.ne_of_lt (by omega))
       · exact absurd q List.not_mem_nil)
    | (simp; omega)
  ) only [↓qboxT]

def iZipL (K : PySem.W.Frag) (ta : TA) : TI := fun σ H R => ta σ H fun vs H1 => ∃ b x ys, vs = [.ref b, .str x] ∧ SqL K H1 b ys ∧ R (ItzL K b x) H1
theorem pi_zipL {X : Cx} {e e2 : Expr} {ta : TA} {p pos tpos : Pos} {elts : List Expr} {kk : Nat} (hg : Gl X "zip") (hm : X.mg "zip" = none) (ha : PA X [e, e2] ta)
    (hs : starEach [e, e2] X.env = (false, eval e X.env) :: starEach [e2] X.env := by rfl) (hpl : (backTo pos (starEach [e2] X.env)).any (·.1) = false := by rfl) :
    PI X (.Tuple elts kk tpos) (.Call (.Name "zip" p) [e, e2] [] pos) (iZipL X.K ta) := by
  refine ⟨fun pins s σ H R I h => ?_⟩
  refine Call_ (ld_blt I hg hm PyProof.Rows.boot_zip (PyProof.Rows.callWith_type1 (thn (ha.run pos pins s σ H _ I h) fun us s1 ⟨vs, H1, I1, r1, q1⟩ => ?_) hs hpl))
  obtain ⟨b, x, ys, ex, hqy, q⟩ := q1
  subst ex
  cases r1 with
  | cons r rr =>
    cases rr with
    | cons r' rr =>
      cases rr
      obtain ⟨t, rfl⟩ := r'
      cases r
      have fresh5 : ∀ c, c ∈ [s1.heap.objs.size + 4, s1.heap.objs.size + 2, s1.heap.objs.size + 3, s1.heap.objs.size, s1.heap.objs.size + 1] → FpOk X pins H1 c := fun c hcm => by
        have e' : c = s1.heap.objs.size + 4 ∨ c = s1.heap.objs.size + 2 ∨ c = s1.heap.objs.size + 3 ∨ c = s1.heap.objs.size ∨ c = s1.heap.objs.size + 1 := by simpa using hcm
        have hle : s1.heap.objs.size ≤ c := by
          rcases e' with z | z | z | z | z
          · rw [z]; exact Nat.le_add_right _ _
          · rw [z]; exact Nat.le_add_right _ _
          · rw [z]; exact Nat.le_add_right _ _
          · rw [z]; exact Nat.le_refl _
          · rw [z]; exact Nat.le_add_right _ _
        exact I1.fpOk hle (I1.hok.fresh hle)
      obtain ⟨its2, rv2, p2, _⟩ := I1.list hqy
      obtain ⟨o2, ho2, _⟩ := id p2.isList
      have hb : b < s1.heap.objs.size := Heap.lt_size ho2
      refine zip_begins2 (begins_list b its2.toArray) (begins_text x t) (show s1.heap.IsList b its2.toArray from p2.isList) trivial fun h' hz hTI hTO g1 g2 hsz hk => wpAny_pyIter_zip hz ?_
      have I2 : Inv X pins σ H1 { s1 with heap := h' } := I1.kept (t' := s1.toks) hk
      exact ⟨s1.heap.objs.size + 4, [s1.heap.objs.size + 4, s1.heap.objs.size + 2, s1.heap.objs.size + 3, s1.heap.objs.size, s1.heap.objs.size + 1], _, _, H1, rfl, I2, turn_zipL (sepNL _ _ hb), ⟨hz, hTI, ⟨_, _, hTO⟩, ⟨_, g1, rfl, rfl⟩, ⟨_, g2, rfl, rfl⟩⟩, fresh5, q⟩
theorem walk_zipL {K : PySem.W.Frag} {x : Str} {b : Addr} {ys : List V} {n : Nat} (hn : n = min x.cps.size ys.length) : L2.Walk (ItzL K b x) n (fun H => SqL K H b ys) (fun i H v H' => ∃ T c y, v = .ref T ∧ H T = none ∧ H' = upd H T (.tup [y, .str ⟨#[c]⟩]) ∧ x.cps[i]? = some c ∧ ys[i]? = some y) := by
  refine QBox.out ?_
  simp (disch :=
  refine qkeep ?_
  with_unfolding_all
  subst hn
  refine ⟨fun i _ hi q => ?_, fun _ q => ⟨ys, q, by omega, by omega, by omega⟩, fun i H v H' _ q y => ?_⟩
  · have h2 : i < ys.length := by omega
    exact ⟨by omega, ys, ys[i], q, List.getElem?_eq_getElem h2⟩
  · obtain ⟨T, c, z, h1, h2, h3, h4, h5⟩ := y
    exact ⟨T, c, z, h1, h2, h3, h4, h5 ys q⟩
  ) only [↓qboxT]

end RZL
namespace Law
open PySem PySem.Spec PyProof.Rows L2 L2H Q
def top (i : Nat) : Stmt := PySem.Challenge.pw_learnplace_k72_whole_texts.main.body.getD i (.Pass ⟨0, 0, 0, 0⟩)
abbrev s_law : Stmt := top 29
theorem sc_law : FnScope ["script", "bag", "some", "handed", "text", "found", "bent", "row"] ["script"] (defScope s_law) := ⟨rfl, rfl, rfl, by decide +kernel, rfl, by decide +kernel, by decide +kernel⟩
abbrev s__law_alike : Stmt := top 28
theorem sc__law_alike : FnScope ["found", "due", "k"] ["found", "due"] (defScope s__law_alike) := ⟨rfl, rfl, rfl, by decide +kernel, rfl, by decide +kernel, by decide +kernel⟩
abbrev s__law_any_script : Stmt := top 23
theorem sc__law_any_script : FnScope ["bag", "many", "words", "rows", "k"] ["bag"] (defScope s__law_any_script) := ⟨rfl, rfl, rfl, by decide +kernel, rfl, by decide +kernel, by decide +kernel⟩
abbrev s__law_bag : Stmt := top 16
theorem sc__law_bag : FnScope ["script", "stir", "cell"] ["script"] (defScope s__law_bag) := ⟨rfl, rfl, rfl, by decide +kernel, rfl, by decide +kernel, by decide +kernel⟩
abbrev s__law_bent_row : Stmt := top 26
theorem sc__law_bent_row : FnScope ["bag", "row", "many", "way", "some", "texts", "word", "k", "part", "words", "at"] ["bag", "row", "many"] (defScope s__law_bent_row) := ⟨rfl, rfl, rfl, by decide +kernel, rfl, by decide +kernel, by decide +kernel⟩
abbrev s__law_draw : Stmt := top 17
theorem sc__law_draw : FnScope ["bag", "many", "found"] ["bag", "many"] (defScope s__law_draw) := ⟨rfl, rfl, rfl, by decide +kernel, rfl, by decide +kernel, by decide +kernel⟩
abbrev s__law_wild_script : Stmt := top 24
theorem sc__law_wild_script : FnScope ["bag", "words", "rows", "k", "row", "part"] ["bag"] (defScope s__law_wild_script) := ⟨rfl, rfl, rfl, by decide +kernel, rfl, by decide +kernel, by decide +kernel⟩
abbrev s__law_words : Stmt := top 19
theorem sc__law_words : FnScope ["bag", "letters", "way", "found", "word", "k", "many", "at", "sign", "other", "some", "one", "j"] ["bag"] (defScope s__law_words) := ⟨rfl, rfl, rfl, by decide +kernel, rfl, by decide +kernel, by decide +kernel⟩
abbrev s__law_written : Stmt := top 27
theorem sc__law_written : FnScope ["script", "row", "part"] ["script"] (defScope s__law_written) := ⟨rfl, rfl, rfl, by decide +kernel, rfl, by decide +kernel, by decide +kernel⟩
abbrev s_read : Stmt := top 14
theorem sc_read : FnScope ["text", "line"] ["text"] (defScope s_read) := ⟨rfl, rfl, rfl, by decide +kernel, rfl, by decide +kernel, by decide +kernel⟩
abbrev s_shown : Stmt := top 10
theorem sc_shown : FnScope ["script", "row", "part"] ["script"] (defScope s_shown) := ⟨rfl, rfl, rfl, by decide +kernel, rfl, by decide +kernel, by decide +kernel⟩
abbrev s__law_any_row : Stmt := top 22
theorem sc__law_any_row : FnScope ["bag", "word", "many", "letter"] ["bag", "word", "many"] (defScope s__law_any_row) := ⟨rfl, rfl, rfl, by decide +kernel, rfl, by decide +kernel, by decide +kernel⟩
abbrev s__law_letters : Stmt := top 20
theorem sc__law_letters : FnScope [] [] (defScope s__law_letters) := ⟨rfl, rfl, rfl, by decide +kernel, rfl, by decide +kernel, by decide +kernel⟩
abbrev s__law_any_sign : Stmt := top 25
theorem sc__law_any_sign : FnScope ["bag", "some"] ["bag"] (defScope s__law_any_sign) := ⟨rfl, rfl, rfl, by decide +kernel, rfl, by decide +kernel, by decide +kernel⟩
abbrev s__law_number : Stmt := top 18
theorem sc__law_number : FnScope ["bag"] ["bag"] (defScope s__law_number) := ⟨rfl, rfl, rfl, by decide +kernel, rfl, by decide +kernel, by decide +kernel⟩
abbrev s_read_row : Stmt := top 13
theorem sc_read_row : FnScope ["line", "words", "letters", "text", "letter"] ["line"] (defScope s_read_row) := ⟨rfl, rfl, rfl, by decide +kernel, rfl, by decide +kernel, by decide +kernel⟩
abbrev s__law_part : Stmt := top 21
theorem sc__law_part : FnScope ["bag", "letter", "many"] ["bag", "letter", "many"] (defScope s__law_part) := ⟨rfl, rfl, rfl, by decide +kernel, rfl, by decide +kernel, by decide +kernel⟩
abbrev s_read_part : Stmt := top 12
theorem sc_read_part : FnScope ["text", "letter"] ["text", "letter"] (defScope s_read_part) := ⟨rfl, rfl, rfl, by decide +kernel, rfl, by decide +kernel, by decide +kernel⟩
abbrev s_is_name : Stmt := top 9
theorem sc_is_name : FnScope ["text", "sign"] ["text"] (defScope s_is_name) := ⟨rfl, rfl, rfl, by decide +kernel, rfl, by decide +kernel, by decide +kernel⟩
abbrev s_read_whole : Stmt := top 11
theorem sc_read_whole : FnScope ["text", "most", "figures", "sign"] ["text", "most"] (defScope s_read_whole) := ⟨rfl, rfl, rfl, by decide +kernel, rfl, by decide +kernel, by decide +kernel⟩
structure Txt (w : World) (K : PySem.W.Frag) (mg : Str → Option Value) (a_NoText a_HouseError : Addr) : Prop where
  n_list : mg "list" = none
  n_isinstance : mg "isinstance" = none
  n_str : mg "str" = none
  n_len : mg "len" = none
  n_tuple : mg "tuple" = none
  n_all : mg "all" = none
  n_bool : mg "bool" = none
  n_int : mg "int" = none
  n_range : mg "range" = none
  n_abs : mg "abs" = none
  n_zip : mg "zip" = none
  k_MOST_FIGURES : ∃ u, mg "MOST_FIGURES" = some u ∧ RelV (.int 60) u
  k_MOST_SIGNS : ∃ u, mg "MOST_SIGNS" = some u ∧ RelV (.int 8) u
  k_LETTERS : ∃ u, mg "LETTERS" = some u ∧ RelV (.str "abcdefghijklmnopqrstuvwxyz") u
  k_FIGURES : ∃ u, mg "FIGURES" = some u ∧ RelV (.str "0123456789") u
  b_PARTS : BDc w K mg "PARTS" [("set", "rn"), ("plus", "rrr"), ("make", "r"), ("under", "rr"), ("put", "rar"), ("ask", "rrat"), ("out", "ra"), ("fix", "ra"), ("shut", "r"), ("gather", "r"), ("turn", "rr"), ("free", "r"), ("sweep", ""), ("tell", "r"), ("zero", "rt"), ("jump", "t"), ("end", "")]
  c_NoText : mg "NoText" = some (.ref a_NoText)
  c_HouseError : mg "HouseError" = some (.ref a_HouseError)
  x_NoText : Xc K mg "NoText" a_NoText
  e_NoText : ExcC K a_NoText
  f__law_alike : Df K mg "_law_alike" s__law_alike ["found", "due"]
  f__law_any_script : Df K mg "_law_any_script" s__law_any_script ["bag"]
  f__law_bag : Df K mg "_law_bag" s__law_bag ["script"]
  f__law_bent_row : Df K mg "_law_bent_row" s__law_bent_row ["bag", "row", "many"]
  f__law_draw : Df K mg "_law_draw" s__law_draw ["bag", "many"]
  f__law_wild_script : Df K mg "_law_wild_script" s__law_wild_script ["bag"]
  f__law_words : Df K mg "_law_words" s__law_words ["bag"]
  f__law_written : Df K mg "_law_written" s__law_written ["script"]
  f_read : Df K mg "read" s_read ["text"]
  f_shown : Df K mg "shown" s_shown ["script"]
  f__law_any_row : Df K mg "_law_any_row" s__law_any_row ["bag", "word", "many"]
  f__law_letters : Df K mg "_law_letters" s__law_letters []
  f__law_any_sign : Df K mg "_law_any_sign" s__law_any_sign ["bag"]
  f__law_number : Df K mg "_law_number" s__law_number ["bag"]
  f_read_row : Df K mg "read_row" s_read_row ["line"]
  f__law_part : Df K mg "_law_part" s__law_part ["bag", "letter", "many"]
  f_read_part : Df K mg "read_part" s_read_part ["text", "letter"]
  f_is_name : Df K mg "is_name" s_is_name ["text"]
  f_read_whole : Df K mg "read_whole" s_read_whole ["text", "most"]
/-- the bag at b: what is left of the script's numbers, .. ; more behind the five -/
abbrev Bag5 (l : Addr) (at_ left stir cnt : Int) (more : List V) : List V := .ref l :: .int at_ :: .int left :: .int stir :: .int cnt :: more
def big : Int := 10 ^ 60
structure BagOk (cs : List Int) (at_ left stir cnt : Int) : Prop where
  len : cs.length ≤ 63
  cells : ∀ c ∈ cs, 0 ≤ c ∧ c < big
  a0 : 0 ≤ at_
  a1 : at_ ≤ (cs.length : Int)
  l0 : 0 ≤ left
  l1 : left < big
  s0 : 0 ≤ stir
  s1 : stir < 2147483647
  c0 : 0 ≤ cnt
def BagA (b : Addr) (more : List V) : Res := ex fun l => ex fun cs : List Int => ex fun a : Int => ex fun left : Int => ex fun stir : Int => ex fun cnt : Int =>
  All [pure' (BagOk cs a left stir cnt), pts b (.lst (Bag5 l a left stir cnt more)), pts l (.lst (cs.map V.int))]
theorem BagA.open {H : Hp} {b : Addr} {more : List V} {R : List Res} (S : Sat H (BagA b more :: R)) :
    ∃ l cs a left stir cnt, BagOk cs a left stir cnt ∧ Sat H (pts b (.lst (Bag5 l a left stir cnt more)) :: pts l (.lst (cs.map V.int)) :: R) := by
  obtain ⟨l, S⟩ := Sat.ex.mp S
  obtain ⟨cs, S⟩ := Sat.ex.mp S
  obtain ⟨a, S⟩ := Sat.ex.mp S
  obtain ⟨left, S⟩ := Sat.ex.mp S
  obtain ⟨stir, S⟩ := Sat.ex.mp S
  obtain ⟨cnt, S⟩ := Sat.ex.mp S
  obtain ⟨h, S⟩ := Sat.pure.mp (Sat.all.mp S)
  exact ⟨l, cs, a, left, stir, cnt, h, S⟩
theorem BagA.close {H : Hp} {b l : Addr} {cs : List Int} {a left stir cnt : Int} {more : List V} {R : List Res} (h : BagOk cs a left stir cnt)
    (S : Sat H (pts b (.lst (Bag5 l a left stir cnt more)) :: pts l (.lst (cs.map V.int)) :: R)) : Sat H (BagA b more :: R) :=
  Sat.ex.mpr ⟨l, Sat.ex.mpr ⟨cs, Sat.ex.mpr ⟨a, Sat.ex.mpr ⟨left, Sat.ex.mpr ⟨stir, Sat.ex.mpr ⟨cnt, Sat.all.mpr (Sat.pure.mpr ⟨h, S⟩)⟩⟩⟩⟩⟩⟩
/-- _law_bag(script) -/
def spBag (K : PySem.W.Frag) : Sp := fun vs H Q _ => ∃ (a : Addr) (ns : List Int) (R : List Res), vs = [.ref a] ∧ ns.length ≤ 63 ∧ Sat H (scr K a (ns.map V.int) :: R) ∧ ∀ b H', Sat H' (BagA b [] :: R) → Q (.ref b) H'
theorem cut63 {xs : List V} (h : xs.length ≤ 63) : cutV xs none (some 63) = xs := by
  refine QBox.out ?_
  simp (disch :=
  refine qkeep ?_
  with_unfolding_all
  have e : cutV xs none (some 63) = (xs.drop (HT.sIx xs.length 0 none)).take (HT.sIx xs.length xs.length (some ((63 : Nat) : Int)) - HT.sIx xs.length 0 none) := rfl
  rw [e, HT.sIx_nat, HT.sIx_none, List.drop_zero, Nat.sub_zero]
  exact List.take_of_length_le (by omega)
  ) only [↓qboxT]

/-- _law_draw(bag, many): any number from 0 to below many -/
def spDraw : Sp := fun vs H Q _ => ∃ (b : Addr) (m : Int) (more : List V) (R : List Res), vs = [.ref b, .int m] ∧ 0 < m ∧ m ≤ big ∧ Sat H (BagA b more :: R) ∧
  ∀ (k : Int) H', 0 ≤ k → k < m → Sat H' (BagA b more :: R) → Q (.int k) H'
theorem le_big {m : Int} (h : m ≤ 1000000000) : m ≤ big := Int.le_trans h (by decide)
theorem w_draw {b : Addr} {m : Int} {more : List V} {R : List Res} {H : Hp} {Q : VK} {E : XK} (S : Sat H (BagA b more :: R)) (m0 : 0 < m) (m1 : m ≤ 1000000000) (k : ∀ (k : Int) H', 0 ≤ k → k < m → Sat H' (BagA b more :: R) → Q (.int k) H') : spDraw [.ref b, .int m] H Q E :=
  ⟨b, m, more, R, rfl, m0, le_big m1, S, k⟩
theorem cdiv {i m : Int} (h0 : 0 < m) (h1 : m ≤ big) : CDivW i m := wide_div (b := 201) h0 (by
  have e : big ≤ (2 ^ 200 : Int) := by decide
  have e2 : (2 ^ 200 : Nat) < 2 ^ 201 := by decide
  have e3 : ((2 ^ 200 : Nat) : Int) = (2 ^ 200 : Int) := by decide
  omega) (by decide) (by decide)
section
variable {P : Program} {w : World} {K : PySem.W.Frag} {mg : Str → Option Value} {base : Heap} {a_NoText a_HouseError : Addr}
theorem c__law_draw (T : Txt w K mg a_NoText a_HouseError) : Cl P w K mg base CX0 1 "_law_draw" spDraw := by
  refine QBox.out ?_
  simp (disch :=
  refine qkeep ?_
  with_unfolding_all
  refine T.f__law_draw.cl sc__law_draw (fun vs H Q E h => by obtain ⟨b, m, _, _, rfl, _⟩ := h; rfl) (fun f cdv A outer s H vs Q E hr h => ?_)
  obtain ⟨b, m, more, R, rfl, m0, m1, S, k⟩ := h
  refine ⟨_, (pss_cons (ps_if (PW.pt (pw_and (pt_cmpR (op_eqU K hr.units) (pe_ix (ix_U K (hu_of hr)) (pv 0) pe_int (fun _ _ => rfl)) pe_int (nomark _)) (pw_and1 (pt_cmpR op_ltU (pe_ix (ix_U K (hu_of hr)) (pv 0) pe_int (fun _ _ => rfl)) (pe_callB (call_lenU K) rfl T.n_len (by decide +kernel) (pa_cons (pe_ix (ix_U K (hu_of hr)) (pv 0) pe_int (fun _ _ => rfl)) pa_nil)) (nomark _)))))
 (pss_cons (ps_asg (pe_ix (ix_U K (hu_of hr)) (pe_ix (ix_U K (hu_of hr)) (pv 0) pe_int (fun _ _ => rfl)) (pe_ix (ix_U K (hu_of hr)) (pv 0) pe_int (fun _ _ => rfl)) (fun _ _ => rfl)) (pg_sub (pv 0) pe_int (set_U (hu_of hr)) (fun _ => rfl)))
 (pss_one (ps_asg (pe_op (op_addU K) (pe_ix (ix_U K (hu_of hr)) (pv 0) pe_int (fun _ _ => rfl)) pe_int) (pg_sub (pv 0) pe_int (set_U (hu_of hr)) (fun _ => rfl)))))
 (pss_one (ps_if (pt_cmpR (op_eqU K hr.units) (pe_ix (ix_U K (hu_of hr)) (pv 0) pe_int (fun _ _ => rfl)) pe_int (nomark _))
 (pss_cons (ps_asg (pe_op (op_addU K) (pe_ix (ix_U K (hu_of hr)) (pv 0) pe_int (fun _ _ => rfl)) pe_int) (pg_sub (pv 0) pe_int (set_U (hu_of hr)) (fun _ => rfl)))
 (pss_cons (ps_asg (pe_op op_modU (pe_op (op_addU K) (pe_op (op_addU K) (pe_op (op_addU K) (pe_op op_powU (pe_ix (ix_U K (hu_of hr)) (pv 0) pe_int (fun _ _ => rfl)) pe_int) (pe_op op_mulU pe_int (pe_ix (ix_U K (hu_of hr)) (pv 0) pe_int (fun _ _ => rfl)))) (pe_op op_mulU pe_int (pe_ix (ix_U K (hu_of hr)) (pv 0) pe_int (fun _ _ => rfl)))) pe_int) pe_int) (pg_sub (pv 0) pe_int (set_U (hu_of hr)) (fun _ => rfl)))
 (pss_one (ps_ret (pe_op op_modU (pe_op op_divU (pe_ix (ix_U K (hu_of hr)) (pv 0) pe_int (fun _ _ => rfl)) pe_int) (pv 1))))))
 pss_nil)))
 (pss_cons (ps_set (i := 2) sc__law_draw.nd rfl (Or.inl rfl) (pe_op op_modU (pe_ix (ix_U K (hu_of hr)) (pv 0) pe_int (fun _ _ => rfl)) (pv 1)))
 (pss_cons (ps_asg (pe_op op_divU (pe_ix (ix_U K (hu_of hr)) (pv 0) pe_int (fun _ _ => rfl)) (pv 1)) (pg_sub (pv 0) pe_int (set_U (hu_of hr)) (fun _ => rfl)))
 (pss_one (ps_ret (pv 2)))))), ?_⟩
  obtain ⟨l, cs, a, left, stir, cnt, ok, S⟩ := BagA.open S
  walk_at "i"
  walk_at "xs"
  refine w_ite (fun e0 => ?_) (fun e0 => ?_)
  · walk_at "xs"
    rw [List.length_map]
    refine w_ite (fun ea => ?_) (fun ea => ?_)
    · walk_at "xs"
      refine w_ixM (by walk_at "h") ok.a0 (by rw [List.length_map]; exact ea) (fun v hv => ?_)
      obtain ⟨c, hc, rfl⟩ := List.mem_map.mp hv
      obtain ⟨c0, c1⟩ := ok.cells c hc
      walk_at "xs"
      refine w_setN S 0 rfl (by decide) (by simp [Bag5]) (fun H S => ?_)
      replace S : Sat H (pts b (.lst (Bag5 l a c stir cnt more)) :: pts l (.lst (cs.map V.int)) :: R) := S
      walk_at "xs"
      refine w_setN S 0 rfl (by decide) (by simp [Bag5]) (fun H S => ?_)
      replace S : Sat H (pts b (.lst (Bag5 l (a + 1) c stir cnt more)) :: pts l (.lst (cs.map V.int)) :: R) := S
      walk_at "xs"
      refine w_div (cdiv m0 m1) ?_
      walk_at "xs"
      refine w_setN S 0 rfl (by decide) (by simp [Bag5]) (fun H S => ?_)
      replace S : Sat H (pts b (.lst (Bag5 l (a + 1) (c / m) stir cnt more)) :: pts l (.lst (cs.map V.int)) :: R) := S
      walk_at "xs"
      exact k _ _ (Int.emod_nonneg _ (by omega)) (Int.emod_lt_of_pos _ m0) (BagA.close { ok with a0 := by have := ok.a0; omega, a1 := by omega, l0 := Int.ediv_nonneg c0 (by omega), l1 := Int.lt_of_le_of_lt (Int.ediv_le_self m c0) c1 } S)
    · walk_at "xs"
      refine w_yes e0 ?_
      walk_at "xs"
      refine w_setN S 0 rfl (by decide) (by simp [Bag5]) (fun H S => ?_)
      replace S : Sat H (pts b (.lst (Bag5 l a left stir (cnt + 1) more)) :: pts l (.lst (cs.map V.int)) :: R) := S
      walk_at "xs"
      have s0 := ok.s0
      have s1 := ok.s1
      refine w_pow ⟨by decide, by decide, by omega⟩ ?_
      walk_at "xs"
      refine w_mul (.inl (.inl (by decide))) ?_
      walk_at "xs"
      refine w_mul (.inl (.inl (by decide))) ?_
      walk_at "xs"
      refine w_setN S 0 rfl (by decide) (by simp [Bag5]) (fun H S => ?_)
      generalize hz : (stir ^ Int.toNat 3 + 69621 * stir + 1019 * (cnt + 1) + 1) % 2147483647 = z at S
      replace S : Sat H (pts b (.lst (Bag5 l a left z (cnt + 1) more)) :: pts l (.lst (cs.map V.int)) :: R) := S
      walk_at "xs"
      refine w_div (cdiv (by decide) (by decide)) ?_
      walk_at "xs"
      exact k _ _ (Int.emod_nonneg _ (by omega)) (Int.emod_lt_of_pos _ m0) (BagA.close { ok with s0 := by omega, s1 := by omega, c0 := by have := ok.c0; omega } S)
  · walk_at "xs"
    refine w_no e0 ?_
    walk_at "xs"
    refine w_div (cdiv m0 m1) ?_
    walk_at "xs"
    refine w_setN S 0 rfl (by decide) (by simp [Bag5]) (fun H S => ?_)
    replace S : Sat H (pts b (.lst (Bag5 l a (left / m) stir cnt more)) :: pts l (.lst (cs.map V.int)) :: R) := S
    walk_at "xs"
    have l0 := ok.l0
    exact k _ _ (Int.emod_nonneg _ (by omega)) (Int.emod_lt_of_pos _ m0) (BagA.close { ok with l0 := Int.ediv_nonneg l0 (by omega), l1 := Int.lt_of_le_of_lt (Int.ediv_le_self m l0) ok.l1 } S)
  ) only [↓qboxT]

theorem c__law_bag (T : Txt w K mg a_NoText a_HouseError) : Cl P w K mg base CX0 1 "_law_bag" (spBag K) := by
  refine QBox.out ?_
  simp (disch :=
  refine qkeep ?_
  with_unfolding_all
  refine T.f__law_bag.cl sc__law_bag (fun vs H Q E h => by obtain ⟨a, _, _, rfl, _⟩ := h; rfl) (fun f cdv A outer s H vs Q E hr h => ?_)
  obtain ⟨a, ns, R, rfl, hn, S, k⟩ := h
  refine ⟨_, (pss_cons (ps_set (i := 1) sc__law_bag.nd rfl (Or.inl rfl) pe_int)
 (pss_cons (ps_for PassesOwn.never rfl (pi_seqK K (pe_slice (sl_U K) (pv 0) po_none (po_some pe_int))) (pg_name (i := 2) sc__law_bag.nd rfl (Or.inl rfl))
 (pss_one (ps_set (i := 1) sc__law_bag.nd rfl (Or.inl rfl) (pe_op op_modU (pe_op (op_addU K) (pe_op (op_addU K) (pe_op op_mulU (pv 1) pe_int) (pe_op op_modU (pv 2) pe_int)) pe_int) pe_int))))
 (pss_one (ps_ret (pe_lst (pa_cons (pe_lc (own := [("cell", 2)]) (g := gName 2) (tt := tYes) rfl sc__law_bag.nd (pi_seqK K (pe_slice (sl_U K) (pv 0) po_none (po_some pe_int))) (blkOk_by (N := ["script", "stir", "cell"]) (sc := defScope s__law_bag) (by decide +kernel)) (fun _ _ _ _ _ => (pg_name (i := 2) sc__law_bag.nd rfl (Or.inl rfl))) (fun _ _ _ _ _ => pts_nil) (fun _ _ _ _ _ => (pe_op op_modU (pe_callB call_absU rfl T.n_abs (by decide +kernel) (pa_cons (pv 2) pa_nil)) (pe_op op_powU pe_int pe_int)))) (pa_cons pe_int (pa_cons pe_int (pa_cons (pv 1) (pa_cons pe_int pa_nil)))))))))), ?_⟩
  walk_at "i"
  walk_at "xs"
  refine w_sqL ?_
  walk_at "xs"
  refine w_slQ (scr_get S) ?_
  rw [cut63 (by rw [List.length_map]; exact hn)]
  refine w_newU S (fun p H _ S => ?_)
  refine w_slV (by walk_at "h") ?_
  refine w_forK (walk_list (K := K) (a := p) (xs := ns.map V.int)) (fun i σ H => ∃ stir v, σ = [some (.ref a), some (.int stir), v] ∧ 0 ≤ stir ∧ stir < 2147483647 ∧ Sat H (sh p (.lst (ns.map V.int)) :: scr K a (ns.map V.int) :: R))
    ⟨13, none, rfl, by decide, by decide, S⟩ (fun i σ H _ ⟨_, _, _, _, _, S⟩ => .of S.readS) ?_ ?_
  · rintro i x σ H H' hi ⟨stir, v, rfl, s0, s1, S⟩ ⟨rfl, hx⟩
    obtain ⟨c, rfl⟩ : ∃ c, x = V.int c := by
      obtain ⟨c, _, e⟩ := List.mem_map.mp (List.mem_of_getElem? hx)
      exact ⟨c, e.symm⟩
    walk_at "xs"
    refine w_mul (.inl (.inr (by decide))) ?_
    walk_at "xs"
    exact ⟨_, _, rfl, by omega, by omega, S⟩
  · rintro σ H ⟨stir, v, rfl, s0, s1, S⟩
    walk_at "xs"
    refine w_sqL ?_
    walk_at "xs"
    refine w_slQ (scr_get S.drop) ?_
    rw [cut63 (by rw [List.length_map]; exact hn)]
    refine w_newU S (fun q H _ S => ?_)
    refine w_slV (by walk_at "h") ?_
    refine w_lcK (walk_list (K := K) (a := q) (xs := ns.map V.int)) (by rw [List.length_map]; omega) (fun i acc => ∃ cs : List Int, acc = cs.map V.int ∧ ∀ c ∈ cs, 0 ≤ c ∧ c < big) (fun i acc => sh q (.lst (ns.map V.int)) :: R)
      ⟨[], rfl, fun _ h => absurd h List.not_mem_nil⟩ (S.to (by walk_at "s")) (fun i acc D H _ S => .of S.drop.readS) ?_ ?_
    · rintro i acc D x H H' hi hz hl ⟨cs, rfl, hc⟩ S ⟨rfl, hx⟩
      obtain ⟨c, rfl⟩ : ∃ c, x = V.int c := by
        obtain ⟨c, _, e⟩ := List.mem_map.mp (List.mem_of_getElem? hx)
        exact ⟨c, e.symm⟩
      walk_at "xs"
      refine ⟨rfl, ?_⟩
      walk_at "xs"
      refine w_pow ⟨by decide, by decide, by decide⟩ ?_
      refine w_mod (by decide) ?_
      refine w_el hl hz ⟨cs ++ [(if c < 0 then -c else c) % 10 ^ Int.toNat 60], by rw [List.map_append]; rfl, fun z hz => ?_⟩ S
      rcases List.mem_append.mp hz with h | h
      · exact hc z h
      · rw [List.mem_singleton.mp h]
        exact ⟨Int.emod_nonneg _ (by decide), Int.emod_lt_of_pos _ (by decide)⟩
    · rintro D acc H hl ⟨cs, rfl, hc⟩ S
      walk_at "xs"
      refine w_newL S (by simp) (fun b H _ S => ?_)
      rw [List.length_map] at hl
      rw [List.length_map] at hl
      exact k _ _ (BagA.close (a := 0) (left := 0) (cnt := 0) ⟨by omega, hc, by decide, by omega, by decide, by decide, s0, s1, by decide⟩ (S.to (by walk_at "s")))
  ) only [↓qboxT]

end
end Law
namespace Law
open PySem PySem.Spec PyProof.Rows L2 L2H Q
/-- _law_number(bag), a bag with anything more -/
def spNumW : Sp := fun vs H Z _ => ∃ b more R, vs = [.ref b] ∧ Sat H (BagA b more :: R) ∧ ∀ n H', -big < n → n < big → Sat H' (BagA b more :: R) → Z (.int n) H'
section
variable {P : Program} {w : World} {K : PySem.W.Frag} {mg : Str → Option Value} {base : Heap} {a_NoText a_HouseError : Addr}
theorem c__law_number (T : Txt w K mg a_NoText a_HouseError) : Cl P w K mg base CX0 2 "_law_number" spNumW := by
  refine QBox.out ?_
  simp (disch :=
  refine qkeep ?_
  with_unfolding_all
  have c__law_draw : Cl P w K mg base CX0 1 "_law_draw" spDraw := c__law_draw T
  refine T.f__law_number.cl sc__law_number (fun vs H Q E h => by obtain ⟨_, _, _, rfl, _⟩ := h; rfl) (fun f cdv A outer s H vs Q E hr h => ?_)
  obtain ⟨b, more, R, rfl, S, k⟩ := h
  refine ⟨_, (pss_cons (ps_if (pt_cmpR (op_eqU K hr.units) (pe_cl c__law_draw hr (by decide) pz0 rfl (pa_cons (pv 0) (pa_cons pe_int pa_nil))) pe_int (nomark _))
 (pss_one (ps_ret (pe_op op_mulU (pe_op op_subU (pe_op op_mulU (pe_cl c__law_draw hr (by decide) pz0 rfl (pa_cons (pv 0) (pa_cons pe_int pa_nil))) pe_int) pe_int) (pe_cl c__law_draw hr (by decide) pz0 rfl (pa_cons (pv 0) (pa_cons (pe_op op_powU pe_int pe_int) pa_nil))))))
 pss_nil)
 (pss_one (ps_ret (pe_op op_subU (pe_cl c__law_draw hr (by decide) pz0 rfl (pa_cons (pv 0) (pa_cons pe_int pa_nil))) pe_int)))), ?_⟩
  have hb : big = 10 ^ 60 := rfl
  walk_at "i"
  walk_at "xs"
  refine w_draw S (by decide) (by decide) fun i1 H a1 b1 S => ?_
  walk_at "xs"
  refine w_ite (fun h1 => ?_) (fun h1 => ?_)
  · walk_at "xs"
    refine w_draw S (by decide) (by decide) fun i2 H a2 b2 S => ?_
    walk_at "xs"
    refine w_mul (.inl (.inr (by decide))) ?_
    walk_at "xs"
    refine w_pow ⟨by decide, by decide, by decide⟩ ?_
    refine ⟨b, _, more, R, rfl, by decide, by decide, S, fun i3 H a3 b3 S => ?_⟩
    have b3 : i3 < big := b3
    rcases (by omega : i2 = 0 ∨ i2 = 1) with rfl | rfl
    · refine w_mul (.inl (.inl (by decide))) (k _ _ ?_ ?_ S)
      · omega
      · have : (0 : Int) ≤ big := by decide
        omega
    · refine w_mul (.inl (.inl (by decide))) (k _ _ ?_ ?_ S)
      · have : (0 : Int) ≤ big := by decide
        omega
      · omega
  · walk_at "xs"
    refine w_draw S (by decide) (by decide) fun i2 H a2 b2 S => ?_
    walk_at "xs"
    have : (10 : Int) ≤ big := by decide
    exact k _ _ (by omega) (by omega) S
  ) only [↓qboxT]

end
end Law
namespace Law
open PySem PySem.Spec PyProof.Rows L2 L2H Q
/-- a written name, by computation -/
def nmC (x : Str) : Bool := decide (1 ≤ x.length) && decide (x.length ≤ 8) && (tl x).all fun c => (tl abc).contains c
theorem nmA_by {x : Str} (h : nmC x = true) : nmA x := by
  unfold nmC at h
  rw [Bool.and_eq_true, Bool.and_eq_true, decide_eq_true_eq, decide_eq_true_eq, List.all_eq_true] at h
  exact ⟨h.1.1, h.1.2, fun c hc => by simpa using h.2 c hc⟩
theorem nmA_all {ns : List Str} (h : ns.all nmC = true) : ∀ x ∈ ns, nmA x := fun x hx => nmA_by (List.all_eq_true.mp h x hx)
theorem az_rev {z z' : Str} (h : AzOk z) (k : ∀ c ∈ tl z', c ∈ tl z) : AzOk z' := fun c hc => h c (k c hc)
theorem az_mid {y : Str} {i j : Int} (a : AzOk y) (h : 0 ≤ i) (hi : i ≤ y.length) (hj : i ≤ j) : AzOk (Txt.slice y (some i) (some j)) := fun c hc => by
  rw [slice_mid h hi hj] at hc
  exact a c (List.mem_of_mem_drop (List.mem_of_mem_take (by simpa [SX.S] using hc)))
theorem len_mid {y : Str} {i j : Int} (h : 0 ≤ i) (hi : i ≤ y.length) (hj : i ≤ j) : (Txt.slice y (some i) (some j)).length = min (j - i).toNat (y.length - i.toNat) := by
  rw [slice_mid h hi hj, SX.S_len, List.length_take, List.length_drop, tl_len]
theorem str_ne {x : Str} (h : ¬ x = Str.ofString "") : 1 ≤ x.length := by
  refine Nat.pos_of_ne_zero fun e => h ?_
  obtain ⟨cs⟩ := x
  have e : cs.size = 0 := e
  rw [Array.eq_empty_of_size_eq_zero e]
  decide +kernel
theorem w_revS {te : TE} {σ : L2.St} {H : Hp} {Q : VK} (k : te σ H fun x H1 => ∃ z, x = .str z ∧ z.length ≤ sizeLine ∧ ∀ z' : Str, z'.length ≤ z.length → (∀ c ∈ tl z', c ∈ tl z) → Q (.str z') H1) : tRevS te σ H Q := k
theorem w_or2 {p q : Prop} {A B C : Prop} [Decidable p] [Decidable q] (hc : (if decide q = true then A else B) → C) (h1 : p ∨ q → A) (h2 : ¬ p → ¬ q → B) : if decide p = true then (if true = true then A else B) else C := by
  refine QBox.out ?_
  simp (disch :=
  refine qkeep ?_
  with_unfolding_all
  by_cases hp : p
  · rw [if_pos (decide_eq_true hp), if_pos rfl]
    exact h1 (.inl hp)
  · rw [if_neg (by rw [decide_eq_true_eq]; exact hp)]
    refine hc ?_
    by_cases hq : q
    · rw [if_pos (decide_eq_true hq)]
      exact h1 (.inr hq)
    · rw [if_neg (by rw [decide_eq_true_eq]; exact hq)]
      exact h2 hp hq
  ) only [↓qboxT]

/-- _law_words(bag) -/
def spWords : Sp := fun vs H Z _ => ∃ b R, vs = [.ref b] ∧ Sat H (BagA b [] :: R) ∧ ∀ wp (ns : List Str) H', ns.length = 8 → (∀ x ∈ ns, nmA x) → Sat H' (pts wp (.lst (ns.map V.str)) :: BagA b [] :: R) → Z (.ref wp) H'
section
variable {P : Program} {w : World} {K : PySem.W.Frag} {mg : Str → Option Value} {base : Heap} {a_NoText a_HouseError : Addr}
theorem c__law_words (T : Txt w K mg a_NoText a_HouseError) : Cl P w K mg base CX0 2 "_law_words" spWords := by
  refine QBox.out ?_
  simp (disch :=
  refine qkeep ?_
  with_unfolding_all
  have c__law_draw : Cl P w K mg base CX0 1 "_law_draw" spDraw := c__law_draw T
  refine T.f__law_words.cl sc__law_words (fun vs H Q E h => by obtain ⟨_, _, rfl, _⟩ := h; rfl) (fun f cdv A outer s H vs Q E hr h => ?_)
  obtain ⟨b, R, rfl, S, k⟩ := h
  refine ⟨_, (pss_cons (ps_set (i := 1) sc__law_words.nd rfl (Or.inr rfl) pe_str)
 (pss_cons (ps_set (i := 2) sc__law_words.nd rfl (Or.inl rfl) (pe_cl c__law_draw hr (by decide) pz0 rfl (pa_cons (pv 0) (pa_cons pe_int pa_nil))))
 (pss_cons (ps_if (pt_cmpR (op_eqU K hr.units) (pv 2) pe_int (nomark _))
 (pss_one (ps_ret (pe_lst (pa_cons pe_str (pa_cons pe_str (pa_cons pe_str (pa_cons pe_str (pa_cons pe_str (pa_cons pe_str (pa_cons pe_str (pa_cons pe_str pa_nil)))))))))))
 pss_nil)
 (pss_cons (ps_set (i := 3) sc__law_words.nd rfl (Or.inl rfl) (pe_lst pa_nil))
 (pss_cons (ps_set (i := 4) sc__law_words.nd rfl (Or.inl rfl) pe_str)
 (pss_cons (ps_for PassesOwn.never rfl (pi_range1 rfl T.n_range (pa_cons pe_int pa_nil)) (pg_name (i := 5) sc__law_words.nd rfl (Or.inl rfl))
 (pss_one (ps_if (PW.pt (pw_or (pt_cmpR (op_eqU K hr.units) (pv 2) pe_int (nomark _)) (pw_or1 (pt_cmpR (op_eqU K hr.units) (pv 5) pe_int (nomark _)))))
 (pss_cons (ps_set (i := 6) sc__law_words.nd rfl (Or.inl rfl) (pe_op (op_addU K) pe_int (pe_cl c__law_draw hr (by decide) pz0 rfl (pa_cons (pv 0) (pa_cons pe_int pa_nil)))))
 (pss_cons (ps_set (i := 4) sc__law_words.nd rfl (Or.inl rfl) (pe_bmK K PySem.F.plainAttrs_str PySem.F.slot_str_join PySem.F.type_str_join (mt_joinU K) pe_str (pa_cons (pe_lc (own := [("j", 12)]) (g := gName 12) (tt := tYes) rfl sc__law_words.nd (pi_range1 rfl T.n_range (pa_cons (pv 6) pa_nil)) (blkOk_by (N := ["bag", "letters", "way", "found", "word", "k", "many", "at", "sign", "other", "some", "one", "j"]) (sc := defScope s__law_words) (by decide +kernel)) (fun _ _ _ _ _ => (pg_name (i := 12) sc__law_words.nd rfl (Or.inl rfl))) (fun _ _ _ _ _ => pts_nil) (fun _ _ _ _ _ => (pe_ix (ix_U K (hu_of hr)) (pv 1) (pe_cl c__law_draw hr (by decide) pz0 rfl (pa_cons (pv 0) (pa_cons pe_int pa_nil))) (fun _ _ => rfl)))) pa_nil)))
 (pss_one (ps_expr (pe_bmK K PySem.F.plainAttrs_list PySem.F.slot_list_append PySem.F.type_list_append mt_append (pv 3) (pa_cons (pv 4) pa_nil))))))
 (pss_cons (ps_set (i := 7) sc__law_words.nd rfl (Or.inl rfl) (pe_cl c__law_draw hr (by decide) pz0 rfl (pa_cons (pv 0) (pa_cons (pe_callB (call_lenU K) rfl T.n_len (by decide +kernel) (pa_cons (pv 4) pa_nil)) pa_nil))))
 (pss_cons (ps_set (i := 8) sc__law_words.nd rfl (Or.inl rfl) (pe_ix (ix_U K (hu_of hr)) (pv 1) (pe_cl c__law_draw hr (by decide) pz0 rfl (pa_cons (pv 0) (pa_cons pe_int pa_nil))) (fun _ _ => rfl)))
 (pss_cons (ps_set (i := 9) sc__law_words.nd rfl (Or.inl rfl) (pe_op (op_addU K) (pe_op (op_addU K) (pe_slice (sl_U K) (pv 4) po_none (po_some (pv 7))) (pv 8)) (pe_slice (sl_U K) (pv 4) (po_some (pe_op (op_addU K) (pv 7) pe_int)) po_none)))
 (pss_cons (ps_set (i := 10) sc__law_words.nd rfl (Or.inl rfl) (pe_lst (pa_cons (pv 9) (pa_cons (pv 9) (pa_cons (pe_slice (sl_U K) (pe_op (op_addU K) (pe_op (op_addU K) (pe_slice (sl_U K) (pv 4) po_none (po_some (pv 7))) (pv 8)) (pe_slice (sl_U K) (pv 4) (po_some (pv 7)) po_none)) po_none (po_some pe_int)) (pa_cons (pe_op (op_addU K) (pe_slice (sl_U K) (pv 4) po_none (po_some (pv 7))) (pe_slice (sl_U K) (pv 4) (po_some (pe_op (op_addU K) (pv 7) pe_int)) po_none)) pa_nil))))))
 (pss_cons (ps_expr (pe_bmK K PySem.F.plainAttrs_list PySem.F.slot_list_append PySem.F.type_list_append mt_append (pv 10) (pa_cons (pe_op (op_addU K) (pe_op (op_addU K) (pe_slice (sl_U K) (pv 4) po_none (po_some (pv 7))) (pe_revS (pe_slice (sl_U K) (pv 4) (po_some (pv 7)) (po_some (pe_op (op_addU K) (pv 7) pe_int))))) (pe_slice (sl_U K) (pv 4) (po_some (pe_op (op_addU K) (pv 7) pe_int)) po_none)) pa_nil)))
 (pss_cons (ps_set (i := 11) sc__law_words.nd rfl (Or.inl rfl) (pe_ix (ix_U K (hu_of hr)) (pv 10) (pe_cl c__law_draw hr (by decide) pz0 rfl (pa_cons (pv 0) (pa_cons pe_int pa_nil))) (fun _ _ => rfl)))
 (pss_one (ps_expr (pe_bmK K PySem.F.plainAttrs_list PySem.F.slot_list_append PySem.F.type_list_append mt_append (pv 3) (pa_cons (pe_ifExp (pt_cmpR (op_neU K hr.units) (pv 11) pe_str (nomark _)) (pv 11) pe_str) pa_nil)))))))))))))
 (pss_one (ps_ret (pv 3))))))))), ?_⟩
  have h26 : abc.length = 26 := by decide +kernel
  walk_at "i"
  walk_at "xs"
  refine w_draw S (by decide) (by decide) fun d0 H d1 d2 S => ?_
  walk_at "xs"
  refine w_ite (fun h0 => ?_) (fun h0 => ?_)
  · walk_at "xs"
    refine w_nL S fun wp H _ S => ?_
    exact k wp ["a", "b", "ab", "name", "zzzzzzzz", "set", "end", "q"] H rfl (nmA_all (by decide +kernel)) S
  walk_at "xs"
  refine w_nL S fun fp H _ S => ?_
  walk_at "xs"
  refine w_r1N (k := 8) (by decide) ?_
  refine w_forR (fun i σ H => ∃ ns wd v5 v6 v7 v8 v9 v10 v11, σ = [some (.ref b), some (.str abc), some (.int d0), some (.ref fp), some (.str wd), v5, v6, v7, v8, v9, v10, v11, none] ∧ ns.length = i ∧ nmA wd ∧ (∀ x ∈ ns, nmA x) ∧ Sat H (BagA b [] :: pts fp (.lst (ns.map V.str)) :: R)) ⟨[], "q", none, none, none, none, none, none, none, rfl, rfl, nmA_by (by decide +kernel), fun _ h => absurd h List.not_mem_nil, S.to (Bs := BagA b [] :: pts fp (.lst []) :: R) (by walk_at "s")⟩ ?_ ?_
  · clear S
    rintro i σ H hi ⟨ns, wd, v5, v6, v7, v8, v9, v10, v11, rfl, hnl, hwd, hns, S⟩
    walk_at "xs"
    refine w_or2 (q := (i : Int) = 0) (fun h => ?_) (fun hw => ?_) (fun hn1 hn2 => ?_)
    · walk_at "xs"
      exact h
    · walk_at "xs"
      refine w_draw S (by decide) (by decide) fun m0 H a2 b2 S => ?_
      obtain ⟨m, hm, hm1, hm8⟩ : ∃ m : Nat, 1 + m0 = (m : Int) ∧ 1 ≤ m ∧ m ≤ 8 := ⟨(1 + m0).toNat, by omega, by omega, by omega⟩
      walk_at "xs"
      rw [hm]
      walk_at "n"
      refine w_r1N (by omega) ?_
      refine w_lcR (by omega) (fun i acc => ∃ cs, acc = chrs cs ∧ cs.length = i ∧ ∀ c ∈ cs, c ∈ tl abc) (fun _ _ => BagA b [] :: pts fp (.lst (ns.map V.str)) :: R) ⟨[], rfl, rfl, fun _ h => absurd h List.not_mem_nil⟩ S ?_ ?_
      · clear S
        rintro j acc D H hj hz hl ⟨cs, rfl, hcl, hc⟩ S
        walk_at "xs"
        refine ⟨rfl, ?_⟩
        walk_at "xs"
        refine w_draw (S.pick (by walk_at "pick")) (by decide) (by decide) fun i3 H a3 b3 S => ?_
        refine w_ixMS (by rw [h26]; decide) a3 (by rw [h26]; exact b3) fun c hc' => ?_
        refine w_el hl hz ⟨cs ++ [c], by unfold chrs; rw [List.map_append]; rfl, by rw [List.length_append, hcl, List.length_singleton], fun d hd => ?_⟩ (S.to (by walk_at "s"))
        rcases List.mem_append.mp hd with q | q
        · exact hc d q
        · rw [List.mem_singleton.mp q]
          exact hc'
      clear S
      rintro D acc H hl ⟨cs, rfl, hcl, hc⟩ S
      refine w_nil (w_joinC (by walk_at "h") (by omega) ?_)
      have wn : nmA (SX.S cs) := ⟨by rw [SX.S_len]; omega, by rw [SX.S_len]; omega, AzOk.S hc⟩
      generalize SX.S cs = word at wn
      walk_at "xs"
      refine p_app S (by walk_at "pick") (by rw [List.length_map]; omega) fun H S => ?_
      walk_at "xs"
      refine ⟨ns ++ [word], word, _, _, _, _, _, _, _, rfl, by rw [List.length_append, hnl]; rfl, wn, fun x hx => ?_, ?_⟩
      · rcases List.mem_append.mp hx with q | q
        · exact hns x q
        · rw [List.mem_singleton.mp q]; exact wn
      · rw [List.map_append]
        exact S.to (Bs := BagA b [] :: pts fp (.lst (ns.map V.str ++ [V.str word])) :: R) (by walk_at "s")
    · have hl1 := hwd.1
      have hl8 := hwd.2.1
      have waz := hwd.2.2
      walk_at "xs"
      refine w_draw S (by omega) (by omega) fun at_ H t0 t1 S => ?_
      walk_at "xs"
      refine w_draw S (by decide) (by decide) fun i3 H a3 b3 S => ?_
      refine w_ixMS (by rw [h26]; decide) a3 (by rw [h26]; exact b3) fun c hc => ?_
      have z1 : (Txt.slice wd none (some at_)).length ≤ at_.toNat := by rw [len_to t0]; exact Nat.min_le_left _ _
      have z2 : (Txt.slice wd (some at_) none).length = wd.length - at_.toNat := len_from t0
      have z3 : (Txt.slice wd (some (at_ + 1)) none).length = wd.length - (at_ + 1).toNat := len_from (by omega)
      have z4 : (Txt.slice wd (some (at_ + 2)) none).length = wd.length - (at_ + 2).toNat := len_from (by omega)
      have z5 := len_mid (y := wd) (i := at_) (j := at_ + 2) t0 (by omega) (by omega)
      have q1 : AzOk (Txt.slice wd none (some at_)) := waz.to t0
      have q2 : AzOk (Txt.slice wd (some at_) none) := waz.from t0
      have q3 : AzOk (Txt.slice wd (some (at_ + 1)) none) := waz.from (by omega)
      have q4 : AzOk (Txt.slice wd (some (at_ + 2)) none) := waz.from (by omega)
      have q5 : AzOk (Txt.slice wd (some at_) (some (at_ + 2))) := az_mid waz t0 (by omega) (by omega)
      walk_at "xs"
      refine w_addS (by show _ + 1 ≤ 1000000; omega) ?_
      walk_at "xs"
      refine w_addS (by rw [len_app]; show _ + 1 + _ ≤ 1000000; omega) ?_
      walk_at "xs"
      walk_at "n"
      refine w_addS (by show _ + 1 ≤ 1000000; omega) ?_
      walk_at "xs"
      refine w_addS (by rw [len_app]; show _ + 1 + _ ≤ 1000000; omega) ?_
      have y2 : AzOk (Txt.slice wd none (some at_) ++ ⟨#[c]⟩ ++ Txt.slice wd (some at_) none) := (q1.app (.one hc)).app q2
      have y2l : (Txt.slice wd none (some at_) ++ ⟨#[c]⟩ ++ Txt.slice wd (some at_) none).length ≤ 1000000 := by rw [len_app, len_app]; show _ + 1 + _ ≤ _; omega
      have y1 : AzOk (Txt.slice wd none (some at_) ++ ⟨#[c]⟩ ++ Txt.slice wd (some (at_ + 1)) none) ∧ (Txt.slice wd none (some at_) ++ ⟨#[c]⟩ ++ Txt.slice wd (some (at_ + 1)) none).length ≤ 8 :=
        ⟨(q1.app (.one hc)).app q3, by rw [len_app, len_app]; show _ + 1 + _ ≤ 8; omega⟩
      generalize Txt.slice wd none (some at_) ++ ⟨#[c]⟩ ++ Txt.slice wd (some at_) none = y2s at y2 y2l
      have y3 : AzOk (Txt.slice y2s none (some 8)) ∧ (Txt.slice y2s none (some 8)).length ≤ 8 := ⟨y2.to (by decide), by rw [len_to (by decide)]; exact Nat.min_le_left _ _⟩
      walk_at "xs"
      refine w_addS (by omega) ?_
      have y4 : AzOk (Txt.slice wd none (some at_) ++ Txt.slice wd (some (at_ + 1)) none) ∧ (Txt.slice wd none (some at_) ++ Txt.slice wd (some (at_ + 1)) none).length ≤ 8 :=
        ⟨q1.app q3, by rw [len_app]; omega⟩
      walk_at "xs"
      refine w_nL S fun sp H _ S => ?_
      walk_at "xs"
      refine w_revS ?_
      walk_at "xs"
      refine ⟨_, rfl, Nat.le_trans (show _ ≤ 1000000 by omega) (by decide), fun zr hr1 hr2 => ?_⟩
      refine w_addS (by omega) ?_
      walk_at "xs"
      refine w_addS (by rw [len_app]; omega) ?_
      have y5 : AzOk (Txt.slice wd none (some at_) ++ zr ++ Txt.slice wd (some (at_ + 2)) none) ∧ (Txt.slice wd none (some at_) ++ zr ++ Txt.slice wd (some (at_ + 2)) none).length ≤ 8 :=
        ⟨(q1.app (az_rev q5 hr2)).app q4, by rw [len_app, len_app]; omega⟩
      walk_at "xs"
      refine p_app S (by walk_at "pick") (Nat.le_of_ble_eq_true rfl) fun H S => ?_
      walk_at "xs"
      refine w_draw (S.pick (A := BagA b []) (by walk_at "pick")) (by decide) (by decide) fun j0 H j1 j2 S => ?_
      refine w_ixP (fun v => ∃ x : Str, v = .str x ∧ AzOk x ∧ x.length ≤ 8) (by walk_at "h") j1 (by exact j2) ?_ fun v hv => ?_
      · exact ⟨⟨_, rfl, y1⟩, ⟨_, rfl, y1⟩, ⟨_, rfl, y3⟩, ⟨_, rfl, y4⟩, ⟨_, rfl, y5⟩, trivial⟩
      obtain ⟨one, rfl, o1, o2⟩ := hv
      walk_at "xs"
      refine w_iteN (fun n1 => ?_) (fun n1 => ?_)
      · walk_at "xs"
        have on : nmA one := ⟨str_ne n1, o2, o1⟩
        refine p_app S (by walk_at "pick") (by rw [List.length_map]; omega) fun H S => ?_
        walk_at "xs"
        refine ⟨ns ++ [one], wd, _, _, _, _, _, _, _, rfl, by rw [List.length_append, hnl]; rfl, hwd, fun x hx => ?_, ?_⟩
        · rcases List.mem_append.mp hx with q | q
          · exact hns x q
          · rw [List.mem_singleton.mp q]; exact on
        · rw [List.map_append]
          exact S.to (Bs := BagA b [] :: pts fp (.lst (ns.map V.str ++ [V.str one])) :: R) (by walk_at "s")
      · walk_at "xs"
        refine p_app S (by walk_at "pick") (by rw [List.length_map]; omega) fun H S => ?_
        walk_at "xs"
        refine ⟨ns ++ [("q" : Str)], wd, _, _, _, _, _, _, _, rfl, by rw [List.length_append, hnl]; rfl, hwd, fun x hx => ?_, ?_⟩
        · rcases List.mem_append.mp hx with q | q
          · exact hns x q
          · rw [List.mem_singleton.mp q]; exact nmA_by (by decide +kernel)
        · rw [List.map_append]
          exact S.to (Bs := BagA b [] :: pts fp (.lst (ns.map V.str ++ [V.str "q"])) :: R) (by walk_at "s")
  clear S
  rintro σ H ⟨ns, wd, v5, v6, v7, v8, v9, v10, v11, rfl, hnl, hwd, hns, S⟩
  walk_at "xs"
  exact k fp ns H hnl hns (S.to (by walk_at "s"))
  ) only [↓qboxT]

end
end Law
namespace Law
open PySem PySem.Spec PyProof.Rows L2 L2H Q
def isName (z : Str) : Bool := decide (1 ≤ z.length) && (decide (z.length ≤ 8) && ((tl z).filter fun c => !decide (c ∈ tl ("abcdefghijklmnopqrstuvwxyz" : Str))).isEmpty)
/-- is_name(text) -/
def spName : Sp := fun vs H Q _ => ∃ (z : Str) (R : List Res), vs = [.str z] ∧ z.length ≤ 1000 ∧ (∀ c ∈ tl z, c < 1114112) ∧ Sat H R ∧ ∀ H', Sat H' R → Q (.bl (isName z)) H'
section
variable {P : Program} {w : World} {K : PySem.W.Frag} {mg : Str → Option Value} {base : Heap} {a_NoText a_HouseError : Addr}
theorem c_is_name (T : Txt w K mg a_NoText a_HouseError) : Cl P w K mg base CX0 1 "is_name" spName := by
  refine QBox.out ?_
  simp (disch :=
  refine qkeep ?_
  with_unfolding_all
  refine T.f_is_name.cl sc_is_name (fun vs H Q E h => by obtain ⟨_, _, rfl, _⟩ := h; rfl) (fun f cdv A outer s H vs Q E hr h => ?_)
  obtain ⟨z, R, rfl, hz, hc, S, k⟩ := h
  refine ⟨_, (pss_one (ps_ret (pe_andK K (pe_chain op_leU op_leU pe_int (pe_callB (call_lenU K) rfl T.n_len (by decide +kernel) (pa_cons (pv 0) pa_nil)) (pe_gv rfl T.k_MOST_SIGNS)) (pe_one (pe_cmpR (op_eqU K hr.units) (pe_lc (own := [("sign", 1)]) (g := gName 1) rfl sc_is_name.nd (pi_seqK K (pv 0)) (blkOk_by (N := ["text", "sign"]) (sc := defScope s_is_name) (by decide +kernel)) (fun _ _ _ _ _ => (pg_name (i := 1) sc_is_name.nd rfl (Or.inl rfl))) (fun _ _ _ _ _ => pts_one (pt_cmpR (op_notinU K (hu65 hr)) (pv 1) (pe_gv rfl T.k_LETTERS) (by with_unfolding_all rfl))) (fun _ _ _ _ _ => (pv 1))) (pe_lst pa_nil) (nomark _)))))), ?_⟩
  walk_at "i"
  walk_at "xs"
  refine w_ite (fun h1 => ?_) (fun h1 => ?_)
  · walk_at "xs"
    refine w_ite (fun h2 => ?_) (fun h2 => ?_)
    · walk_at "xs"
      refine w_sqS ?_
      walk_at "xs"
      refine w_ssV (w_nots (by simp) (by omega) S fun D H S => ?_)
      refine w_lst (w_nil (w_newL S (by decide) fun p H _ S => ?_))
      refine w_eqC (by walk_at "h") (by walk_at "h") (fun c h => hc c (List.mem_filter.mp h).1) ?_
      have e : isName z = ((tl z).filter fun c => !decide (c ∈ tl ("abcdefghijklmnopqrstuvwxyz" : Str))).isEmpty := by
        unfold isName
        rw [decide_eq_true (show 1 ≤ z.length by omega), decide_eq_true (show z.length ≤ 8 by omega)]
        rfl
      have q := k H (S.to (by walk_at "s"))
      rw [e] at q
      exact q
    · have q := k H S
      have e : isName z = decide ((z.length : Int) ≤ 8) := by
        unfold isName
        rw [decide_eq_false (show ¬ z.length ≤ 8 by omega), decide_eq_false h2]
        exact Bool.and_false _
      rw [e] at q
      exact q
  · walk_at "xs"
    have q := k H S
    have e : isName z = false := by
      unfold isName
      rw [decide_eq_false (show ¬ 1 ≤ z.length by omega)]
      rfl
    rw [e] at q
    exact q
  ) only [↓qboxT]

end
def lkT : List (Str × Str) → Str → Option Str
  | [], _ => none
  | q :: l, w => if q.1 = w then some q.2 else lkT l w
theorem val_bg : ∀ (l : List (Str × Str)) (w : Str), valV (l.map bgKV) (.inr w) = (lkT l w).map V.str
  | [], _ => rfl
  | q :: l, w => by
    rw [List.map_cons]
    by_cases h : q.1 = w
    · rw [valV_pos (show (bgKV q).1 = Sum.inr w from congrArg Sum.inr h)]
      show some (V.str q.2) = (if q.1 = w then some q.2 else lkT l w).map V.str
      rw [if_pos h]
      rfl
    · rw [valV_neg (fun e : (Sum.inr q.1 : Key) = Sum.inr w => h (Sum.inr.inj e)), val_bg l w]
      show _ = (if q.1 = w then some q.2 else lkT l w).map V.str
      rw [if_neg h]
abbrev parts17 : List (Str × Str) := [("set", "rn"), ("plus", "rrr"), ("make", "r"), ("under", "rr"), ("put", "rar"), ("ask", "rrat"), ("out", "ra"), ("fix", "ra"), ("shut", "r"), ("gather", "r"), ("turn", "rr"), ("free", "r"), ("sweep", ""), ("tell", "r"), ("zero", "rt"), ("jump", "t"), ("end", "")]
/-- a part of a row: a number or a text -/
def PtOk (d : Dt) : Prop := (∃ i, d = .int i ∧ i.natAbs < 10 ^ 61) ∨ ∃ x, d = .str x ∧ TxOk x 100
theorem PtOk.sc {d : Dt} (h : PtOk d) : isSc d = true := by
  rcases h with ⟨i, rfl, _⟩ | ⟨x, rfl, _⟩ <;> rfl
structure RwOk (r : Str × List Dt) (n : Nat) : Prop where
  w : TxOk r.1 100
  n : r.2.length ≤ n
  ps : ∀ d ∈ r.2, PtOk d
theorem RwOk.mono {r : Str × List Dt} {n m : Nat} (h : RwOk r n) (l : n ≤ m) : RwOk r m := ⟨h.w, Nat.le_trans h.n l, h.ps⟩
theorem RwOk.sc {r : Str × List Dt} {n : Nat} (h : RwOk r n) : (Dt.str r.1 :: r.2).all isSc = true := by
  rw [List.all_cons]
  show (true && r.2.all isSc) = true
  rw [Bool.true_and]
  exact List.all_eq_true.mpr fun d hd => (h.ps d hd).sc
def rwD (r : Str × List Dt) : Dt := .tup (.str r.1 :: r.2)
theorem DR.openRw {H : Hp} {R : List Res} {r : Str × List Dt} {n : Nat} {v : V} (h : RwOk r n) (S : Sat H (DR (rwD r) v :: R)) : ∃ p, v = .ref p ∧ Sat H (sh p (.tup (.str r.1 :: r.2.map unV)) :: R) := by
  obtain ⟨p, us, e, S⟩ := DR.openT S
  have h2 := (DsR.h S.drop).sc h.sc
  subst h2
  exact ⟨p, e, (S.perm (List.Perm.swap _ _ _)).drop⟩
theorem DR.ofRw {H : Hp} {R : List Res} {r : Str × List Dt} {n : Nat} {p : Addr} (h : RwOk r n) (S : Sat H (sh p (.tup (.str r.1 :: r.2.map unV)) :: R)) : Sat H (DR (rwD r) (.ref p) :: R) := S.imp fun g z => .tup z (DsG.ofSc (ds := .str r.1 :: r.2) h.sc)
theorem tl_lenT (x : Str) : (tl x).length = x.length := by
  show x.cps.toList.length = x.cps.size
  simp
def txD : Dt → Str
  | .int i => Str.ofString (toString i)
  | .str x => x
  | _ => ""
def wrRow (r : Str × List Dt) : Str := Txt.join " " ((.str r.1 :: r.2).map txD)
def wr (rs : List (Str × List Dt)) : Str := Txt.join "\n" (rs.map wrRow)
theorem log2_le {n k : Nat} (h : n < 2 ^ k) (hk : 0 < k) : n.log2 < k := by
  by_cases e : n = 0
  · subst e
    rw [show Nat.log2 0 = 0 by decide +kernel]
    exact hk
  · exact (Nat.log2_lt e).mpr h
theorem rstr_pt {d : Dt} {H : Hp} {Z : VK} (h : PtOk d) (k : Z (.str (txD d)) H) : rStrU [unV d] H Z := by
  rcases h with ⟨i, rfl, hi⟩ | ⟨x, rfl, _⟩
  · exact ⟨_, rfl, log2_le (Nat.lt_of_lt_of_le hi (by decide +kernel)) (by decide), k⟩
  · exact ⟨_, rfl, k⟩
theorem txD_len {d : Dt} (h : PtOk d) : (txD d).length ≤ 100 := by
  refine QBox.out ?_
  simp (disch :=
  refine qkeep ?_
  with_unfolding_all
  rcases h with ⟨i, rfl, hi⟩ | ⟨x, rfl, hx⟩
  · have e1 := PySem.int_text_length_le10 (k := 61) (by decide) hi
    have e2 : (Str.ofString (toString i)).length = (toString i).length := PySem.ofString_length _
    show (Str.ofString (toString i)).length ≤ 100
    omega
  · exact hx.len
  ) only [↓qboxT]

theorem row_txts {r : Str × List Dt} {n : Nat} (h : RwOk r n) : ∀ z ∈ (Dt.str r.1 :: r.2).map txD, z.length ≤ 100 := by
  intro z hz
  obtain ⟨d, hd, rfl⟩ := List.mem_map.mp hz
  rcases List.mem_cons.mp hd with rfl | hd
  · exact h.w.len
  · exact txD_len (h.ps d hd)
theorem row_fits {r : Str × List Dt} (h : RwOk r 100) : (((Dt.str r.1 :: r.2).map txD).map (·.length)).sum + ((Dt.str r.1 :: r.2).map txD).length * (" " : Str).length ≤ 16777216 := by
  refine QBox.out ?_
  simp (disch :=
  refine qkeep ?_
  with_unfolding_all
  have h1 := sum_le (row_txts h)
  have h2 : ((Dt.str r.1 :: r.2).map txD).length = r.2.length + 1 := by rw [List.length_map, List.length_cons]
  have h3 := h.n
  rw [h2] at h1 ⊢
  rw [show (" " : Str).length = 1 by decide +kernel]
  omega
  ) only [↓qboxT]

theorem wrRow_len {r : Str × List Dt} (h : RwOk r 100) : (wrRow r).length ≤ 10201 := by
  refine QBox.out ?_
  simp (disch :=
  refine qkeep ?_
  with_unfolding_all
  have h1 := join_len " " ((Dt.str r.1 :: r.2).map txD)
  have h2 := sum_le (row_txts h)
  have h3 : ((Dt.str r.1 :: r.2).map txD).length = r.2.length + 1 := by rw [List.length_map, List.length_cons]
  have h4 := h.n
  rw [h3] at h1 h2
  rw [show (" " : Str).length = 1 by decide +kernel] at h1
  show (Txt.join " " ((Dt.str r.1 :: r.2).map txD)).length ≤ 10201
  omega
  ) only [↓qboxT]

theorem rows_fit {rs : List (Str × List Dt)} (h : ∀ r ∈ rs, RwOk r 100) (hl : rs.length ≤ 1000) : ((rs.map wrRow).map (·.length)).sum + (rs.map wrRow).length * ("\n" : Str).length ≤ 16777216 := by
  refine QBox.out ?_
  simp (disch :=
  refine qkeep ?_
  with_unfolding_all
  have h1 : ((rs.map wrRow).map (·.length)).sum ≤ (rs.map wrRow).length * 10201 := sum_le fun z hz => by
    obtain ⟨r, hr, rfl⟩ := List.mem_map.mp hz
    exact wrRow_len (h r hr)
  rw [List.length_map] at h1 ⊢
  rw [show ("\n" : Str).length = 1 by decide +kernel]
  omega
  ) only [↓qboxT]

/-- shown(script) -/
def spShown : Sp := fun vs H Z _ => ∃ p, ∃ rs : List (Str × List Dt), ∃ us R, vs = [.ref p] ∧ (∀ r ∈ rs, RwOk r 100) ∧ rs.length ≤ 1000 ∧ Sat H (pts p (.lst us) :: DsR (rs.map rwD) us :: R) ∧ ∀ H', Sat H' (pts p (.lst us) :: DsR (rs.map rwD) us :: R) → Z (.str (wr rs)) H'
section
variable {P : Program} {w : World} {K : PySem.W.Frag} {mg : Str → Option Value} {base : Heap} {a_NoText a_HouseError : Addr}
theorem c_shown (T : Txt w K mg a_NoText a_HouseError) : Cl P w K mg base CX0 1 "shown" spShown := by
  refine QBox.out ?_
  simp (disch :=
  refine qkeep ?_
  with_unfolding_all
  refine T.f_shown.cl sc_shown (fun vs H Q E h => by obtain ⟨_, _, _, _, rfl, _⟩ := h; rfl) (fun f cdv A outer s H vs Q E hr h => ?_)
  obtain ⟨p, rs, us, R, rfl, hrs, hl, S, k⟩ := h
  refine ⟨_, (pss_one (ps_ret (pe_bmK K PySem.F.plainAttrs_str PySem.F.slot_str_join PySem.F.type_str_join (mt_joinU K) pe_str (pa_cons (pe_lc (own := [("row", 1)]) (g := gName 1) (tt := tYes) rfl sc_shown.nd (pi_seqK K (pv 0)) (blkOk_by (N := ["script", "row", "part"]) (sc := defScope s_shown) (by decide +kernel)) (fun _ _ _ _ _ => (pg_name (i := 1) sc_shown.nd rfl (Or.inl rfl))) (fun _ _ _ _ _ => pts_nil) (fun _ _ _ _ _ => (pe_bmK K PySem.F.plainAttrs_str PySem.F.slot_str_join PySem.F.type_str_join (mt_joinU K) pe_str (pa_cons (pe_lc (own := [("part", 2)]) (g := gName 2) (tt := tYes) rfl sc_shown.nd (pi_seqK K (pv 1)) (blkOk_by (N := ["script", "row", "part"]) (sc := { kind := .function, names := [(".0", .local), ("row", .local)], isGenerator := false, isCoroutine := false }) (by decide +kernel)) (fun _ _ _ _ _ => (pg_name (i := 2) sc_shown.nd rfl (Or.inl rfl))) (fun _ _ _ _ _ => pts_nil) (fun _ _ _ _ _ => (pe_callTy call_strU rfl T.n_str (by decide +kernel) (pa_cons (pv 2) pa_nil)))) pa_nil)))) pa_nil)))), ?_⟩
  have hul : us.length = rs.length := by rw [← DsR.len (S.pick (A := DsR (rs.map rwD) us) (by walk_at "pick")), List.length_map]
  walk_at "i"
  walk_at "xs"
  refine w_sqL ?_
  walk_at "xs"
  refine w_slV (by walk_at "h") ?_
  refine w_lcK (walk_list (K := K) (a := p) (xs := us)) (by omega) (fun i acc => acc = ((rs.take i).map wrRow).map V.str) (fun _ _ => pts p (.lst us) :: DsR (rs.map rwD) us :: R) rfl S (fun i acc D H _ S => .of (by walk_at "h")) ?_ ?_
  · clear S
    rintro i acc D y H H' hi hz hlen rfl S ⟨rfl, hy⟩
    obtain ⟨r, hr⟩ : ∃ r, rs[i]? = some r := ⟨_, List.getElem?_eq_getElem (by omega)⟩
    have hok := hrs r (List.mem_of_getElem? hr)
    obtain ⟨v', hv', S1⟩ := DsR.at (S.pick (A := DsR (rs.map rwD) us) (by walk_at "pick")) (map_at (f := rwD) hr)
    rw [hy] at hv'
    cases hv'
    obtain ⟨rp, rfl, S2⟩ := DR.openRw hok S1
    clear S1
    have hrn := hok.n
    have S : Sat H' (sh rp (.tup (.str r.1 :: r.2.map unV)) :: pts D (.lst (((rs.take i).map wrRow).map V.str)) :: pts p (.lst us) :: DsR (rs.map rwD) us :: R) := S2.to (by walk_at "s")
    clear S2
    walk_at "xs"
    refine ⟨rfl, ?_⟩
    walk_at "xs"
    refine w_sqT ?_
    walk_at "xs"
    refine w_stV (by walk_at "h") ?_
    have hul2 : (V.str r.1 :: r.2.map unV).length = r.2.length + 1 := by rw [List.length_cons, List.length_map]
    refine w_lcK (walk_tup (K := K) (a := rp) (xs := .str r.1 :: r.2.map unV)) (by omega) (fun j acc2 => acc2 = (((Dt.str r.1 :: r.2).take j).map txD).map V.str) (fun _ _ => sh rp (.tup (.str r.1 :: r.2.map unV)) :: pts D (.lst (((rs.take i).map wrRow).map V.str)) :: pts p (.lst us) :: DsR (rs.map rwD) us :: R) rfl S (fun j acc2 D2 H _ S => .of (by walk_at "h")) ?_ ?_
    · clear S
      rintro j acc2 D2 y H3 H4 hj hz2 hlen2 rfl S ⟨rfl, hy2⟩
      have hy2 : ((Dt.str r.1 :: r.2).map unV)[j]? = some y := hy2
      obtain ⟨d, hd, rfl⟩ := at_map hy2
      have hpt : PtOk d := by
        rcases List.mem_cons.mp (List.mem_of_getElem? hd) with rfl | h
        · exact .inr ⟨_, rfl, hok.w⟩
        · exact hok.ps d h
      walk_at "xs"
      refine ⟨rfl, ?_⟩
      walk_at "xs"
      refine rstr_pt hpt ?_
      refine w_el hlen2 hz2 ?_ (S.to (by walk_at "s"))
      rw [take_succ_of hd, List.map_append, List.map_append]
      rfl
    clear S
    rintro D2 acc2 H3 hlen2 rfl S
    rw [List.take_of_length_le (by rw [List.length_map, List.length_map, List.length_take] at hlen2; rw [hul2, List.length_cons]; omega)] at S
    refine w_joinT (ws := (Dt.str r.1 :: r.2).map txD) (by walk_at "h") (row_fits hok) ?_
    refine w_el hlen hz ?_ (S.to (by walk_at "s"))
    rw [take_succ_of hr, List.map_append, List.map_append]
    rfl
  clear S
  rintro D acc H hlen rfl S
  rw [List.take_of_length_le (by omega)] at S
  refine w_joinT (ws := rs.map wrRow) (by walk_at "h") (rows_fit hrs hl) ?_
  exact k H (S.to (by walk_at "s"))
  ) only [↓qboxT]

theorem c__law_written (T : Txt w K mg a_NoText a_HouseError) : Cl P w K mg base CX0 1 "_law_written" spShown := by
  refine QBox.out ?_
  simp (disch :=
  refine qkeep ?_
  with_unfolding_all
  refine T.f__law_written.cl sc__law_written (fun vs H Q E h => by obtain ⟨_, _, _, _, rfl, _⟩ := h; rfl) (fun f cdv A outer s H vs Q E hr h => ?_)
  obtain ⟨p, rs, us, R, rfl, hrs, hl, S, k⟩ := h
  refine ⟨_, (pss_one (ps_ret (pe_bmK K PySem.F.plainAttrs_str PySem.F.slot_str_join PySem.F.type_str_join (mt_joinU K) pe_str (pa_cons (pe_lc (own := [("row", 1)]) (g := gName 1) (tt := tYes) rfl sc__law_written.nd (pi_seqK K (pv 0)) (blkOk_by (N := ["script", "row", "part"]) (sc := defScope s__law_written) (by decide +kernel)) (fun _ _ _ _ _ => (pg_name (i := 1) sc__law_written.nd rfl (Or.inl rfl))) (fun _ _ _ _ _ => pts_nil) (fun _ _ _ _ _ => (pe_bmK K PySem.F.plainAttrs_str PySem.F.slot_str_join PySem.F.type_str_join (mt_joinU K) pe_str (pa_cons (pe_lc (own := [("part", 2)]) (g := gName 2) (tt := tYes) rfl sc__law_written.nd (pi_seqK K (pv 1)) (blkOk_by (N := ["script", "row", "part"]) (sc := { kind := .function, names := [(".0", .local), ("row", .local)], isGenerator := false, isCoroutine := false }) (by decide +kernel)) (fun _ _ _ _ _ => (pg_name (i := 2) sc__law_written.nd rfl (Or.inl rfl))) (fun _ _ _ _ _ => pts_nil) (fun _ _ _ _ _ => (pe_callTy call_strU rfl T.n_str (by decide +kernel) (pa_cons (pv 2) pa_nil)))) pa_nil)))) pa_nil)))), ?_⟩
  have hul : us.length = rs.length := by rw [← DsR.len (S.pick (A := DsR (rs.map rwD) us) (by walk_at "pick")), List.length_map]
  walk_at "i"
  walk_at "xs"
  refine w_sqL ?_
  walk_at "xs"
  refine w_slV (by walk_at "h") ?_
  refine w_lcK (walk_list (K := K) (a := p) (xs := us)) (by omega) (fun i acc => acc = ((rs.take i).map wrRow).map V.str) (fun _ _ => pts p (.lst us) :: DsR (rs.map rwD) us :: R) rfl S (fun i acc D H _ S => .of (by walk_at "h")) ?_ ?_
  · clear S
    rintro i acc D y H H' hi hz hlen rfl S ⟨rfl, hy⟩
    obtain ⟨r, hr⟩ : ∃ r, rs[i]? = some r := ⟨_, List.getElem?_eq_getElem (by omega)⟩
    have hok := hrs r (List.mem_of_getElem? hr)
    obtain ⟨v', hv', S1⟩ := DsR.at (S.pick (A := DsR (rs.map rwD) us) (by walk_at "pick")) (map_at (f := rwD) hr)
    rw [hy] at hv'
    cases hv'
    obtain ⟨rp, rfl, S2⟩ := DR.openRw hok S1
    clear S1
    have hrn := hok.n
    have S : Sat H' (sh rp (.tup (.str r.1 :: r.2.map unV)) :: pts D (.lst (((rs.take i).map wrRow).map V.str)) :: pts p (.lst us) :: DsR (rs.map rwD) us :: R) := S2.to (by walk_at "s")
    clear S2
    walk_at "xs"
    refine ⟨rfl, ?_⟩
    walk_at "xs"
    refine w_sqT ?_
    walk_at "xs"
    refine w_stV (by walk_at "h") ?_
    have hul2 : (V.str r.1 :: r.2.map unV).length = r.2.length + 1 := by rw [List.length_cons, List.length_map]
    refine w_lcK (walk_tup (K := K) (a := rp) (xs := .str r.1 :: r.2.map unV)) (by omega) (fun j acc2 => acc2 = (((Dt.str r.1 :: r.2).take j).map txD).map V.str) (fun _ _ => sh rp (.tup (.str r.1 :: r.2.map unV)) :: pts D (.lst (((rs.take i).map wrRow).map V.str)) :: pts p (.lst us) :: DsR (rs.map rwD) us :: R) rfl S (fun j acc2 D2 H _ S => .of (by walk_at "h")) ?_ ?_
    · clear S
      rintro j acc2 D2 y H3 H4 hj hz2 hlen2 rfl S ⟨rfl, hy2⟩
      have hy2 : ((Dt.str r.1 :: r.2).map unV)[j]? = some y := hy2
      obtain ⟨d, hd, rfl⟩ := at_map hy2
      have hpt : PtOk d := by
        rcases List.mem_cons.mp (List.mem_of_getElem? hd) with rfl | h
        · exact .inr ⟨_, rfl, hok.w⟩
        · exact hok.ps d h
      walk_at "xs"
      refine ⟨rfl, ?_⟩
      walk_at "xs"
      refine rstr_pt hpt ?_
      refine w_el hlen2 hz2 ?_ (S.to (by walk_at "s"))
      rw [take_succ_of hd, List.map_append, List.map_append]
      rfl
    clear S
    rintro D2 acc2 H3 hlen2 rfl S
    rw [List.take_of_length_le (by rw [List.length_map, List.length_map, List.length_take] at hlen2; rw [hul2, List.length_cons]; omega)] at S
    refine w_joinT (ws := (Dt.str r.1 :: r.2).map txD) (by walk_at "h") (row_fits hok) ?_
    refine w_el hlen hz ?_ (S.to (by walk_at "s"))
    rw [take_succ_of hr, List.map_append, List.map_append]
    rfl
  clear S
  rintro D acc H hlen rfl S
  rw [List.take_of_length_le (by omega)] at S
  refine w_joinT (ws := rs.map wrRow) (by walk_at "h") (rows_fit hrs hl) ?_
  exact k H (S.to (by walk_at "s"))
  ) only [↓qboxT]

end
end Law
namespace Law
open PySem PySem.Spec PyProof.Rows L2 L2H Q
theorem w_bag5 {K : PySem.W.Frag} {b : Addr} {w : V} {As R : List Res} {H : Hp} {Z : VK} (S : Sat H As) (pk : Pick (BagA b [w]) As R) (k : Z w H) : rIxU K (.ref b) (.int 5) H Z := by
  obtain ⟨l, cs, a, left, stir, cnt, ok, S⟩ := BagA.open (S.pick pk)
  exact w_ixL (S.read) (v := w) rfl k
def lets : List (Str × Str) := [("set", "rn"), ("plus", "rrr"), ("make", "r"), ("under", "rr"), ("put", "rar"), ("ask", "rrat"), ("out", "ra"), ("fix", "ra"), ("shut", "r"), ("gather", "r"), ("turn", "rr"), ("free", "r"), ("sweep", ""), ("tell", "r"), ("zero", "rt"), ("jump", "t"), ("end", "")]
abbrev letKV (x : Str × Str) : Key × V := (Sum.inr x.1, V.str x.2)
theorem w_longC {σ : L2.St} {p : Addr} {As : List Res} : ∀ (l : List (Str × Str)) (d : List (Str × Str)) (H : Hp) (Q : Hp → Prop), ((d ++ l).map (·.1)).Nodup → Sat H (pts p (.dK (d.map letKV)) :: As) → (d ++ l).length ≤ 1000 →
    (∀ H', Sat H' (pts p (.dK ((d ++ l).map letKV)) :: As) → Q H') → tLong (l.map fun x => (tC (.str x.1), tC (.str x.2))) p σ H Q
  | [], d, H, Q, _, S, _, k => k H (by rw [List.append_nil]; exact S)
  | x :: l, d, H, Q, nd, S, hl, k => by
    have e : d ++ x :: l = (d ++ [x]) ++ l := by rw [List.append_assoc]; rfl
    have hd : d.length ≤ 1000 := by rw [List.length_append] at hl; omega
    refine ⟨.inr x.1, d.map letKV, rfl, S.read, by rw [List.length_map, sizeLine_eq]; omega, w_longC l (d ++ [x]) _ Q (e ▸ nd) ?_ (e ▸ hl) (e ▸ k)⟩
    have hn : valV (d.map letKV) (.inr x.1) = none := by
      have hx : x.1 ∉ d.map (·.1) := fun q => by
        rw [List.map_append, List.map_cons] at nd
        exact (List.nodup_append.mp nd).2.2 _ q _ List.mem_cons_self rfl
      clear nd S hl k e hd
      induction d with
      | nil => rfl
      | cons y d ih =>
        have hy : ¬ (letKV y).1 = Sum.inr x.1 := fun q => hx (by rw [List.map_cons]; have q : (Sum.inr y.1 : Key) = Sum.inr x.1 := q; injection q with q; rw [q]; exact List.mem_cons_self)
        rw [List.map_cons, valV_neg hy]
        exact ih fun q => hx (List.mem_cons_of_mem _ q)
    rw [L2.putK_new _ hn, List.map_append]
    exact S.upd _
theorem w_dispL {σ : L2.St} {l : List (Str × Str)} {As : List Res} {H : Hp} {Z : VK} (S : Sat H As) (nd : (l.map (·.1)).Nodup) (hl : l.length ≤ 1000) (k : ∀ p H', Sat H' (pts p (.dK (l.map letKV)) :: As) → Z (.ref p) H') :
    tDispL (l.map fun x => (tC (.str x.1), tC (.str x.2))) σ H Z := fun p hp => w_longC l [] _ _ (by rw [List.nil_append]; exact nd) (S.new hp) (by rw [List.nil_append]; exact hl) fun H' S => k p H' S
/-- what stands in a row at a letter -/
def ptG (c : Nat) (d : Dt) : Prop := (c = 97 → ∃ x, d = .str x ∧ nmA x) ∧ (c ≠ 97 → ∃ i : Int, d = .int i ∧ i.natAbs < 10 ^ 60)
inductive PtsG : List Nat → List Dt → Prop
  | nil : PtsG [] []
  | cons {c : Nat} {d : Dt} {cs : List Nat} {ds : List Dt} : ptG c d → PtsG cs ds → PtsG (c :: cs) (d :: ds)
theorem PtsG.len {cs : List Nat} {ds : List Dt} (h : PtsG cs ds) : ds.length = cs.length := by
  induction h with
  | nil => rfl
  | cons _ _ ih => rw [List.length_cons, List.length_cons, ih]
theorem PtsG.snoc {cs : List Nat} {ds : List Dt} {c : Nat} {d : Dt} (h : PtsG cs ds) (g : ptG c d) : PtsG (cs ++ [c]) (ds ++ [d]) := by
  induction h with
  | nil => exact .cons g .nil
  | cons a _ ih => exact .cons a ih
theorem ptG.sc {c : Nat} {d : Dt} (h : ptG c d) : PtOk d := by
  refine QBox.out ?_
  simp (disch :=
  refine qkeep ?_
  with_unfolding_all
  by_cases e : c = 97
  · obtain ⟨x, rfl, hx⟩ := h.1 e
    exact .inr ⟨x, rfl, ⟨Nat.le_trans hx.2.1 (by decide), hx.sg⟩⟩
  · obtain ⟨i, rfl, hi⟩ := h.2 e
    exact .inl ⟨i, rfl, Nat.lt_of_lt_of_le hi (by decide +kernel)⟩
  ) only [↓qboxT]

theorem PtsG.at {cs : List Nat} {ds : List Dt} (h : PtsG cs ds) : ∀ {j : Nat} {d : Dt}, ds[j]? = some d → ∃ c, cs[j]? = some c ∧ ptG c d := by
  induction h with
  | nil => intro j d h; cases h
  | cons a _ ih =>
    intro j d h
    cases j with
    | zero => cases h; exact ⟨_, rfl, a⟩
    | succ j => exact ih h
theorem PtsG.ok {cs : List Nat} {ds : List Dt} (h : PtsG cs ds) : ∀ d ∈ ds, PtOk d := by
  induction h with
  | nil => exact fun _ h => absurd h List.not_mem_nil
  | cons a _ ih =>
    intro d hd
    rcases List.mem_cons.mp hd with rfl | hd
    · exact a.sc
    · exact ih d hd
theorem lets_val : ∀ x ∈ lets, valV (lets.map letKV) (.inr x.1) = some (.str x.2) := by
  refine QBox.out ?_
  simp (disch :=
  refine qkeep ?_
  with_unfolding_all
  intro x hx
  unfold lets at hx
  simp only [List.mem_cons, List.not_mem_nil, or_false] at hx
  rcases hx with rfl | rfl | rfl | rfl | rfl | rfl | rfl | rfl | rfl | rfl | rfl | rfl | rfl | rfl | rfl | rfl | rfl <;> rfl
  ) only [↓qboxT]

theorem lets_len : ∀ x ∈ lets, (tl x.2).length ≤ 4 := by
  intro x hx
  have k : lets.all (fun x => decide ((tl x.2).length ≤ 4)) = true := by decide +kernel
  exact of_decide_eq_true (List.all_eq_true.mp k x hx)
def GRow (r : Str × List Dt) : Prop := ∃ x ∈ lets, r.1 = x.1 ∧ PtsG (tl x.2) r.2
theorem lets_tx : ∀ x ∈ lets, TxOk x.1 100 := fun x hx => by
  have h : lets.all (fun y => txC y.1 100) = true := by decide +kernel
  exact txOk_by (List.all_eq_true.mp h x hx)
theorem lets_cs : ∀ x ∈ lets, ∀ c ∈ tl x.2, c = 114 ∨ c = 116 ∨ c = 110 ∨ c = 97 := by decide +kernel
theorem GRow.ok {r : Str × List Dt} (h : GRow r) : RwOk r 4 := by
  obtain ⟨x, hx, e, g⟩ := h
  exact ⟨e ▸ lets_tx x hx, by rw [g.len]; exact lets_len x hx, g.ok⟩
/-- rows of the table's words -/
def RsG (n : Nat) (acc : List V) : Res := ex fun rs : List (Str × List Dt) => All [pure' (rs.length = n ∧ ∀ r ∈ rs, GRow r), DsR (rs.map rwD) acc]
theorem RsG.open {n : Nat} {acc : List V} {R : List Res} {H : Hp} (S : Sat H (RsG n acc :: R)) : ∃ rs : List (Str × List Dt), (rs.length = n ∧ ∀ r ∈ rs, GRow r) ∧ Sat H (DsR (rs.map rwD) acc :: R) := by
  obtain ⟨r, S⟩ := Sat.ex.mp S
  obtain ⟨h, S⟩ := Sat.pure.mp (Sat.all.mp S)
  exact ⟨r, h, S⟩
theorem RsG.close {n : Nat} {acc : List V} {rs : List (Str × List Dt)} {R : List Res} {H : Hp} (h : rs.length = n ∧ ∀ r ∈ rs, GRow r) (S : Sat H (DsR (rs.map rwD) acc :: R)) : Sat H (RsG n acc :: R) := Sat.ex.mpr ⟨rs, Sat.all.mpr (Sat.pure.mpr ⟨h, S⟩)⟩
theorem RsG.snoc {n : Nat} {acc : List V} {r : Str × List Dt} {p : Addr} {R : List Res} {H : Hp} (h : GRow r) (S : Sat H (sh p (.tup (.str r.1 :: r.2.map unV)) :: RsG n acc :: R)) : Sat H (RsG (n + 1) (acc ++ [.ref p]) :: R) := by
  refine QBox.out ?_
  simp (disch :=
  refine qkeep ?_
  with_unfolding_all
  obtain ⟨rs, ⟨e, hr⟩, S⟩ := RsG.open (S.perm (List.Perm.swap _ _ _))
  have S1 := DsR.snoc (DR.ofRw h.ok (S.perm (List.Perm.swap _ _ _)))
  rw [show rs.map rwD ++ [rwD r] = (rs ++ [r]).map rwD by rw [List.map_append]; rfl] at S1
  refine RsG.close ⟨by rw [List.length_append, e]; rfl, fun q hq => ?_⟩ S1
  rcases List.mem_append.mp hq with z | z
  · exact hr q z
  · rw [List.mem_singleton.mp z]; exact h
  ) only [↓qboxT]

/-- _law_letters() -/
def spLetters : Sp := fun vs H Z _ => ∃ R, vs = [] ∧ Sat H R ∧ ∀ p H', Sat H' (pts p (.dK (lets.map letKV)) :: R) → Z (.ref p) H'
/-- the bag with its eight words -/
def WsOk (ns : List Str) : Prop := ns.length = 8 ∧ ∀ x ∈ ns, nmA x
def spPart : Sp := fun vs H Z _ => ∃ b wp ns c m R, vs = [.ref b, .str ⟨#[c]⟩, .int m] ∧ (c = 114 ∨ c = 116 ∨ c = 110 ∨ c = 97) ∧ 0 < m ∧ m ≤ 1000 ∧ WsOk ns ∧ Sat H (BagA b [.ref wp] :: sh wp (.lst (ns.map V.str)) :: R) ∧
  ∀ d H', ptG c d → Sat H' (BagA b [.ref wp] :: sh wp (.lst (ns.map V.str)) :: R) → Z (unV d) H'
def spAnyRow : Sp := fun vs H Z _ => ∃ b wp ns x m R, vs = [.ref b, .str (x : Str × Str).1, .int m] ∧ x ∈ lets ∧ 0 < m ∧ m ≤ 1000 ∧ WsOk ns ∧ Sat H (BagA b [.ref wp] :: sh wp (.lst (ns.map V.str)) :: R) ∧
  ∀ ds p H', PtsG (tl x.2) ds → Sat H' (sh p (.tup (.str x.1 :: ds.map unV)) :: BagA b [.ref wp] :: sh wp (.lst (ns.map V.str)) :: R) → Z (.ref p) H'
def spScript : Sp := fun vs H Z _ => ∃ b wp ns R, vs = [.ref b] ∧ WsOk ns ∧ Sat H (BagA b [.ref wp] :: sh wp (.lst (ns.map V.str)) :: R) ∧
  ∀ (rs : List (Str × List Dt)) p us H', (∀ r ∈ rs, GRow r) → 1 ≤ rs.length → rs.length ≤ 80 → Sat H' (pts p (.lst us) :: DsR (rs.map rwD) us :: BagA b [.ref wp] :: sh wp (.lst (ns.map V.str)) :: R) → Z (.ref p) H'
theorem one_ne {c : Nat} {x : Str} (h : (⟨#[c]⟩ : Str) = x) (e : (⟨#[97]⟩ : Str) ≠ x) : c ≠ 97 := fun q => e (q ▸ h)
section
variable {P : Program} {w : World} {K : PySem.W.Frag} {mg : Str → Option Value} {base : Heap} {a_NoText a_HouseError : Addr}
theorem c__law_letters (T : Txt w K mg a_NoText a_HouseError) : Cl P w K mg base CX0 1 "_law_letters" spLetters := by
  refine QBox.out ?_
  simp (disch :=
  refine qkeep ?_
  with_unfolding_all
  refine T.f__law_letters.cl sc__law_letters (fun vs H Q E h => by obtain ⟨_, rfl, _⟩ := h; rfl) (fun f cdv A outer s H vs Q E hr h => ?_)
  obtain ⟨R, rfl, S, k⟩ := h
  refine ⟨_, (pss_one (ps_ret (pe_dispL (ppl_cons pe_str pe_str (ppl_cons pe_str pe_str (ppl_cons pe_str pe_str (ppl_cons pe_str pe_str (ppl_cons pe_str pe_str (ppl_cons pe_str pe_str (ppl_cons pe_str pe_str (ppl_cons pe_str pe_str (ppl_cons pe_str pe_str (ppl_cons pe_str pe_str (ppl_cons pe_str pe_str (ppl_cons pe_str pe_str (ppl_cons pe_str pe_str (ppl_cons pe_str pe_str (ppl_cons pe_str pe_str (ppl_cons pe_str pe_str (ppl_cons pe_str pe_str ppl_nil))))))))))))))))) rfl rfl rfl))), ?_⟩
  walk_at "i"
  walk_at "xs"
  exact w_dispL (l := lets) S (by decide +kernel) (by decide) k
  ) only [↓qboxT]

theorem c__law_part (T : Txt w K mg a_NoText a_HouseError) : Cl P w K mg base CX0 3 "_law_part" spPart := by
  refine QBox.out ?_
  simp (disch :=
  refine qkeep ?_
  with_unfolding_all
  have c__law_draw : Cl P w K mg base CX0 1 "_law_draw" spDraw := c__law_draw T
  have c__law_number : Cl P w K mg base CX0 2 "_law_number" spNumW := c__law_number T
  refine T.f__law_part.cl sc__law_part (fun vs H Q E h => by obtain ⟨_, _, _, _, _, _, rfl, _⟩ := h; rfl) (fun f cdv A outer s H vs Q E hr h => ?_)
  obtain ⟨b, wp, ns, c, m, R, rfl, hc4, m0, m1, hns, S, k⟩ := h
  refine ⟨_, (pss_cons (ps_if (pt_cmpR (op_eqU K hr.units) (pv 1) pe_str (nomark _))
 (pss_one (ps_ret (pe_cl c__law_draw hr (by decide) pz0 rfl (pa_cons (pv 0) (pa_cons pe_int pa_nil)))))
 pss_nil)
 (pss_cons (ps_if (pt_cmpR (op_eqU K hr.units) (pv 1) pe_str (nomark _))
 (pss_one (ps_ret (pe_cl c__law_draw hr (by decide) pz0 rfl (pa_cons (pv 0) (pa_cons (pv 2) pa_nil)))))
 pss_nil)
 (pss_cons (ps_if (pt_cmpR (op_eqU K hr.units) (pv 1) pe_str (nomark _))
 (pss_one (ps_ret (pe_cl c__law_number hr (by decide) pz0 rfl (pa_cons (pv 0) pa_nil))))
 pss_nil)
 (pss_one (ps_ret (pe_ix (ix_U K (hu_of hr)) (pe_ix (ix_U K (hu_of hr)) (pv 0) pe_int (fun _ _ => rfl)) (pe_cl c__law_draw hr (by decide) pz0 rfl (pa_cons (pv 0) (pa_cons pe_int pa_nil))) (fun _ _ => rfl))))))), ?_⟩
  have k60 : (1000 : Nat) < 10 ^ 60 := by decide +kernel
  have num : ∀ (n : Int) H, c ≠ 97 → n.natAbs < 10 ^ 60 → Sat H (BagA b [.ref wp] :: sh wp (.lst (ns.map V.str)) :: R) → Q (.int n) H := fun n H hc hn S => k (.int n) H ⟨fun e => absurd e hc, fun _ => ⟨n, rfl, hn⟩⟩ S
  walk_at "i"
  walk_at "xs"
  refine w_ite (fun h1 => ?_) (fun h1 => ?_)
  · walk_at "xs"
    refine w_draw S (by decide) (by decide) fun i H i0 i1 S => ?_
    exact num _ H (one_ne h1 (by decide +kernel)) (by omega) S
  walk_at "xs"
  refine w_ite (fun h2 => ?_) (fun h2 => ?_)
  · walk_at "xs"
    refine w_draw S (by omega) (by omega) fun i H i0 i1 S => ?_
    exact num _ H (one_ne h2 (by decide +kernel)) (by omega) S
  walk_at "xs"
  refine w_ite (fun h3 => ?_) (fun h3 => ?_)
  · walk_at "xs"
    refine ⟨b, _, _, rfl, S, fun n H hn1 hn2 S => num n H (one_ne h3 (by decide +kernel)) ?_ S⟩
    have hb : big = ((10 ^ 60 : Nat) : Int) := by decide +kernel
    rw [hb] at hn1 hn2
    omega
  have hc : c = 97 := by
    rcases hc4 with rfl | rfl | rfl | h
    · exact absurd (by decide +kernel) h1
    · exact absurd (by decide +kernel) h2
    · exact absurd (by decide +kernel) h3
    · exact h
  walk_at "xs"
  refine w_bag5 S (by walk_at "pick") ?_
  walk_at "xs"
  refine w_draw S (by decide) (by decide) fun i H i0 i1 S => ?_
  have hl : (ns.map V.str).length = 8 := by rw [List.length_map]; exact hns.1
  refine w_ixM (by walk_at "h") i0 (by rw [hl]; exact i1) fun v hv => ?_
  obtain ⟨x, hx, rfl⟩ := List.mem_map.mp hv
  exact k (.str x) H ⟨fun _ => ⟨x, rfl, hns.2 x hx⟩, fun n => absurd hc n⟩ S
  ) only [↓qboxT]

theorem c__law_any_row (T : Txt w K mg a_NoText a_HouseError) : Cl P w K mg base CX0 4 "_law_any_row" spAnyRow := by
  refine QBox.out ?_
  simp (disch :=
  refine qkeep ?_
  with_unfolding_all
  have c__law_letters : Cl P w K mg base CX0 1 "_law_letters" spLetters := c__law_letters T
  have c__law_part : Cl P w K mg base CX0 3 "_law_part" spPart := c__law_part T
  refine T.f__law_any_row.cl sc__law_any_row (fun vs H Q E h => by obtain ⟨_, _, _, _, _, _, rfl, _⟩ := h; rfl) (fun f cdv A outer s H vs Q E hr h => ?_)
  obtain ⟨b, wp, ns, x, m, R, rfl, hx, m0, m1, hns, S, k⟩ := h
  refine ⟨_, (pss_one (ps_ret (pe_callTy (call_tupleK K) rfl T.n_tuple (by decide +kernel) (pa_cons (pe_op (op_addU K) (pe_lst (pa_cons (pv 1) pa_nil)) (pe_lc (own := [("letter", 3)]) (g := gName 3) (tt := tYes) rfl sc__law_any_row.nd (pi_seqK K (pe_ix (ix_U K (hu_of hr)) (pe_cl0 c__law_letters hr (by decide) pz0 rfl) (pv 1) (fun _ _ => rfl))) (blkOk_by (N := ["bag", "word", "many", "letter"]) (sc := defScope s__law_any_row) (by decide +kernel)) (fun _ _ _ _ _ => (pg_name (i := 3) sc__law_any_row.nd rfl (Or.inl rfl))) (fun _ _ _ _ _ => pts_nil) (fun _ _ _ _ _ => (pe_cl c__law_part hr (by decide) pz0 rfl (pa_cons (pv 0) (pa_cons (pv 3) (pa_cons (pv 2) pa_nil))))))) pa_nil)))), ?_⟩
  walk_at "i"
  walk_at "xs"
  refine w_nL S fun wl H _ S => ?_
  walk_at "xs"
  refine w_sqS ?_
  walk_at "xs"
  refine ⟨_, rfl, S, fun lp H S => ?_⟩
  walk_at "xs"
  refine w_ixD (q := .inr x.1) S.read rfl (lets_val x hx) ?_
  refine w_ssV ?_
  have h4 := lets_len x hx
  have hzs : x.2.cps.size ≤ 4 := h4
  replace S := S.drop
  refine w_lcK walk_str (by omega) (fun i acc => ∃ ds : List Dt, acc = ds.map unV ∧ PtsG ((tl x.2).take i) ds) (fun _ _ => pts wl (.lst [.str x.1]) :: BagA b [.ref wp] :: sh wp (.lst (ns.map V.str)) :: R) ⟨[], rfl, .nil⟩ S (fun _ _ _ _ _ _ => trivial) ?_ ?_
  · clear S
    rintro i acc D y H H' hi hz hl ⟨ds, rfl, hg⟩ S ⟨rfl, c, hc, rfl⟩
    have hc' : (tl x.2)[i]? = some c := by
      rw [← hc]
      simp
    walk_at "xs"
    refine ⟨rfl, ?_⟩
    walk_at "xs"
    refine ⟨b, wp, ns, c, m, _, rfl, lets_cs x hx c (List.mem_of_getElem? hc'), m0, m1, hns, S.to (Bs := BagA b [.ref wp] :: sh wp (.lst (ns.map V.str)) :: pts D (.lst (ds.map unV)) :: pts wl (.lst [.str x.1]) :: R) (by walk_at "s"), fun d H hd S => ?_⟩
    refine w_el hl hz ⟨ds ++ [d], by rw [List.map_append]; rfl, ?_⟩ (S.to (by walk_at "s"))
    rw [take_succ_of hc']
    exact hg.snoc hd
  clear S
  rintro D acc H hl ⟨ds, rfl, hg⟩ S
  rw [List.take_of_length_le (by show (tl x.2).length ≤ x.2.cps.size; exact Nat.le_of_eq (by simp))] at hg
  have hdl := hg.len
  refine w_cat S (by walk_at "h") (by walk_at "h") (by show 1 + (ds.map unV).length ≤ _; rw [List.length_map]; omega) fun l2 H _ S => ?_
  refine w_nil (w_tupOf S (by walk_at "h") fun q H S => ?_)
  replace S : Sat H (sh q (.tup (.str x.1 :: ds.map unV)) :: _) := S
  exact k ds q H hg (S.to (by walk_at "s"))
  ) only [↓qboxT]

theorem c__law_any_script (T : Txt w K mg a_NoText a_HouseError) : Cl P w K mg base CX0 5 "_law_any_script" spScript := by
  refine QBox.out ?_
  simp (disch :=
  refine qkeep ?_
  with_unfolding_all
  have c__law_letters : Cl P w K mg base CX0 1 "_law_letters" spLetters := c__law_letters T
  have c__law_draw : Cl P w K mg base CX0 1 "_law_draw" spDraw := c__law_draw T
  have c__law_any_row : Cl P w K mg base CX0 4 "_law_any_row" spAnyRow := c__law_any_row T
  refine T.f__law_any_script.cl sc__law_any_script (fun vs H Q E h => by obtain ⟨_, _, _, _, rfl, _⟩ := h; rfl) (fun f cdv A outer s H vs Q E hr h => ?_)
  obtain ⟨b, wp, ns, R, rfl, hns, S, k⟩ := h
  refine ⟨_, (pss_cons (ps_set (i := 1) sc__law_any_script.nd rfl (Or.inr rfl) (pe_ix (ix_U K (hu_of hr)) (pe_lst (pa_cons (pe_op (op_addU K) pe_int (pe_cl c__law_draw hr (by decide) pz0 rfl (pa_cons (pv 0) (pa_cons pe_int pa_nil)))) (pa_cons (pe_op (op_addU K) pe_int (pe_cl c__law_draw hr (by decide) pz0 rfl (pa_cons (pv 0) (pa_cons pe_int pa_nil)))) (pa_cons pe_int pa_nil)))) (pe_cl c__law_draw hr (by decide) pz0 rfl (pa_cons (pv 0) (pa_cons pe_int pa_nil))) (fun _ _ => rfl)))
 (pss_cons (ps_set (i := 2) sc__law_any_script.nd rfl (Or.inr rfl) (pe_callTy (L2.call_listD rfl) rfl T.n_list (by decide +kernel) (pa_cons (pe_cl0 c__law_letters hr (by decide) pz0 rfl) pa_nil)))
 (pss_cons (ps_setLc (i := 3) (own := [("k", 4)]) (g := gName 4) (tt := tYes) rfl sc__law_any_script.nd rfl rfl (sw_true rfl rfl rfl (by decide +kernel)) (pi_range1 rfl T.n_range (pa_cons (pe_op op_subU (pv 1) pe_int) pa_nil)) (blkOk_by (N := ["bag", "many", "words", "rows", "k"]) (sc := defScope s__law_any_script) (by decide +kernel)) (fun _ _ _ _ _ => (pg_name (i := 4) sc__law_any_script.nd rfl (Or.inl rfl))) (fun _ _ _ _ _ => pts_nil) (fun _ _ _ _ _ => (pe_cl c__law_any_row hr (by decide) pz0 rfl (pa_cons (pv 0) (pa_cons (pe_ix (ix_U K (hu_of hr)) (pv 2) (pe_cl c__law_draw hr (by decide) pz0 rfl (pa_cons (pv 0) (pa_cons pe_int pa_nil))) (fun _ _ => rfl)) (pa_cons (pv 1) pa_nil))))))
 (pss_one (ps_ret (pe_op (op_addU K) (pv 3) (pe_lst (pa_cons (pe_cl c__law_any_row hr (by decide) pz0 rfl (pa_cons (pv 0) (pa_cons (pe_ix (ix_U K (hu_of hr)) (pe_lst (pa_cons pe_str (pa_cons pe_str pa_nil))) (pe_cl c__law_draw hr (by decide) pz0 rfl (pa_cons (pv 0) (pa_cons pe_int pa_nil))) (fun _ _ => rfl)) (pa_cons (pv 1) pa_nil)))) pa_nil)))))))), ?_⟩
  walk_at "i"
  walk_at "xs"
  refine w_draw S (by decide) (by decide) fun d0 H d1 d2 S => ?_
  walk_at "xs"
  refine w_draw S (by decide) (by decide) fun d3 H d4 d5 S => ?_
  walk_at "xs"
  refine w_nL S fun p0 H _ S => ?_
  walk_at "xs"
  refine w_draw (S.pick (A := BagA b [.ref wp]) (by walk_at "pick")) (by decide) (by decide) fun d6 H d7 d8 S => ?_
  refine w_ixP (fun v => ∃ n : Nat, v = .int (n : Int) ∧ 1 ≤ n ∧ n ≤ 60) (xs := [.int (1 + d0), .int (1 + d3), .int 60]) (by walk_at "h") d7 (by exact d8) ⟨⟨(1 + d0).toNat, by rw [Int.toNat_of_nonneg (by omega)], by omega, by omega⟩, ⟨(1 + d3).toNat, by rw [Int.toNat_of_nonneg (by omega)], by omega, by omega⟩, ⟨60, rfl, by omega, by omega⟩, trivial⟩ fun v hv => ?_
  obtain ⟨n, rfl, hn1, hn60⟩ := hv
  replace S : Sat H (BagA b [.ref wp] :: sh wp (.lst (ns.map V.str)) :: R) := S.to (by walk_at "s")
  walk_at "xs"
  refine ⟨_, rfl, S, fun lp H S => ?_⟩
  walk_at "xs"
  refine ⟨lp, lets.map letKV, rfl, .inl S.read, fun wl hwl => ?_⟩
  have hw : (lets.map letKV).map (fun kv => kV kv.1) = (lets.map (·.1)).map V.str := by rw [List.map_map, List.map_map]; rfl
  rw [hw]
  replace S := S.new (o := .lst ((lets.map (·.1)).map V.str)) hwl
  generalize L2.upd H wl (.lst ((lets.map (·.1)).map V.str)) = H at S
  walk_at "xs"
  rw [show (n : Int) - 1 = ((n - 1 : Nat) : Int) by omega]
  refine w_r1N (by omega) ?_
  replace S : Sat H (BagA b [.ref wp] :: sh wp (.lst (ns.map V.str)) :: pts wl (.lst ((lets.map (·.1)).map V.str)) :: R) := S.to (by walk_at "s")
  have h17 : ((lets.map (·.1)).map V.str).length = 17 := rfl
  refine w_lcR (by omega) (fun _ _ => True) (fun i acc => RsG i acc :: BagA b [.ref wp] :: sh wp (.lst (ns.map V.str)) :: pts wl (.lst ((lets.map (·.1)).map V.str)) :: R) trivial (RsG.close (rs := []) ⟨rfl, fun _ h => absurd h List.not_mem_nil⟩ (DsR.nil S)) ?_ ?_
  · clear S
    rintro i acc D H hi hz hl - S
    walk_at "xs"
    refine ⟨rfl, ?_⟩
    walk_at "xs"
    refine w_draw (S.pick (A := BagA b [.ref wp]) (by walk_at "pick")) (by decide) (by decide) fun i4 H a4 b4 S => ?_
    refine w_ixM (by walk_at "h") a4 (by rw [h17]; exact b4) fun v hv => ?_
    obtain ⟨w0, hw0, rfl⟩ := List.mem_map.mp hv
    obtain ⟨x, hx, rfl⟩ := List.mem_map.mp hw0
    walk_at "xs"
    refine ⟨b, wp, ns, x, (n : Int), _, rfl, hx, by omega, by omega, hns, S.to (Bs := BagA b [.ref wp] :: sh wp (.lst (ns.map V.str)) :: RsG i acc :: pts D (.lst acc) :: pts wl (.lst ((lets.map (·.1)).map V.str)) :: R) (by walk_at "s"), fun ds p H hg S => ?_⟩
    refine w_el hl hz trivial ?_
    have S1 := RsG.snoc (r := (x.1, ds)) ⟨x, hx, rfl, hg⟩ (S.to (Bs := sh p (.tup (.str x.1 :: ds.map unV)) :: RsG i acc :: pts D (.lst acc) :: BagA b [.ref wp] :: sh wp (.lst (ns.map V.str)) :: pts wl (.lst ((lets.map (·.1)).map V.str)) :: R) (by walk_at "s"))
    exact S1.perm (List.Perm.swap _ _ _)
  clear S
  rintro D acc H hl - S
  walk_at "xs"
  refine w_nL S fun p5 H _ S => ?_
  walk_at "xs"
  refine w_draw (S.pick (A := BagA b [.ref wp]) (by walk_at "pick")) (by decide) (by decide) fun i5 H a5 b5 S => ?_
  refine w_ixP (fun v => ∃ x : Str × Str, v = .str x.1 ∧ x ∈ lets) (by walk_at "h") a5 ?_ ?_ fun v hv => ?_
  · exact b5
  · exact ⟨⟨("end", ""), rfl, by decide +kernel⟩, ⟨("jump", "t"), rfl, by decide +kernel⟩, trivial⟩
  obtain ⟨x, rfl, hx⟩ := hv
  walk_at "xs"
  refine ⟨b, wp, ns, x, (n : Int), _, rfl, hx, by omega, by omega, hns, S.to (Bs := BagA b [.ref wp] :: sh wp (.lst (ns.map V.str)) :: RsG (n - 1) acc :: pts D (.lst acc) :: R) (by walk_at "s"), fun ds p H hg S => ?_⟩
  walk_at "xs"
  refine w_nL S fun p6 H _ S => ?_
  walk_at "xs"
  refine w_cat S (by walk_at "h") (by walk_at "h") (by show acc.length + 1 ≤ _; omega) fun p7 H _ S => ?_
  have S1 := RsG.snoc (r := (x.1, ds)) ⟨x, hx, rfl, hg⟩ (S.to (Bs := sh p (.tup (.str x.1 :: ds.map unV)) :: RsG (n - 1) acc :: pts p7 (.lst (acc ++ [.ref p])) :: BagA b [.ref wp] :: sh wp (.lst (ns.map V.str)) :: R) (by walk_at "s"))
  obtain ⟨rs, ⟨hrl, hro⟩, S1⟩ := RsG.open S1
  exact k rs p7 _ H hro (by omega) (by omega) (S1.to (by walk_at "s"))
  ) only [↓qboxT]

end
end Law
namespace Law
open PySem PySem.Spec PyProof.Rows L2 L2H Q
theorem w_slTJ {K : PySem.W.Frag} {H : Hp} {Z : VK} {As : List Res} {a : Addr} {xs ys : List V} {lo hi : Option Int} (n : Nat) (S : Sat H As) (h : H a = some (.tup xs)) (hl : xs.length = n) (hy : cutV xs lo hi = ys)
    (hn : ¬ (HT.sIx n 0 lo = 0 ∧ HT.sIx n n hi = n)) (k : ∀ q H', Sat H' (sh q (.tup ys) :: As) → Z (.ref q) H') : rSlU K (.ref a) lo hi H Z := by
  subst hy hl
  exact .inr ⟨a, _, rfl, .of h, fun e => absurd e hn, fun _ p hp => k p _ (S.newS hp)⟩
theorem cut_tail (x : V) (xs : List V) : cutV (x :: xs) (some 1) none = xs := by
  refine QBox.out ?_
  simp (disch :=
  refine qkeep ?_
  with_unfolding_all
  show cutV (x :: xs) (some ((1 : Nat) : Int)) none = xs
  rw [show cutV (x :: xs) (some ((1 : Nat) : Int)) none = ((x :: xs).drop (HT.sIx (x :: xs).length 0 (some ((1 : Nat) : Int)))).take (HT.sIx (x :: xs).length (x :: xs).length none - HT.sIx (x :: xs).length 0 (some ((1 : Nat) : Int))) from rfl, HT.sIx_nat, HT.sIx_none]
  have : min 1 (x :: xs).length = 1 := by rw [List.length_cons]; omega
  rw [this, List.drop_one, List.tail_cons, List.take_of_length_le (by rw [List.length_cons]; omega)]
  ) only [↓qboxT]

theorem w_slTl {K : PySem.W.Frag} {H : Hp} {Z : VK} {As : List Res} {a : Addr} {x : V} {xs : List V} (S : Sat H As) (h : H a = some (.tup (x :: xs))) (k : ∀ q H', Sat H' (sh q (.tup xs) :: As) → Z (.ref q) H') : rSlU K (.ref a) (some 1) none H Z :=
  w_slTJ (xs.length + 1) S h (List.length_cons) (cut_tail x xs) (fun q => by
    have q := q.1
    rw [show HT.sIx (xs.length + 1) 0 (some 1) = min 1 (xs.length + 1) from HT.sIx_nat (xs.length + 1) 0 1] at q
    omega) k
theorem w_catTe {K : PySem.W.Frag} {H : Hp} {Z : VK} {ys : List V} {a b : Addr} (ha : H a = some (.tup [])) (hb : H b = some (.tup ys)) (hz : ys.length ≤ 1000) (hn : ys ≠ []) (k : Z (.ref b) H) : rAddU K (.ref a) (.ref b) H Z :=
  .inr ⟨a, b, _, _, rfl, rfl, .of ha, .of hb, Nat.le_trans (show 0 + ys.length ≤ 1000 by omega) (by decide), fun _ => k, fun e => absurd rfl e, fun e => absurd rfl e⟩
/-- rows of any numbers -/
def spWild : Sp := spScript
theorem w_catT0 {K : PySem.W.Frag} {H : Hp} {Z : VK} {xs : List V} {x : V} {a b : Addr} (ha : H a = some (.tup (x :: xs))) (hb : H b = some (.tup [])) (hz : (x :: xs).length ≤ 1000) (k : Z (.ref a) H) : rAddU K (.ref a) (.ref b) H Z :=
  .inr ⟨a, b, _, _, rfl, rfl, .of ha, .of hb, Nat.le_trans (show (x :: xs).length + 0 ≤ 1000 from hz) (by decide), fun e => (nomatch e), fun _ _ => k, fun _ e => absurd rfl e⟩
theorem w_repL {H : Hp} {Q : VK} {As : List Res} {a : Addr} {xs : List V} {n : Int} (S : Sat H As) (h : H a = some (.lst xs)) (n0 : 0 ≤ n) (n1 : n ≤ 1000) (hz : xs.length ≤ 1000) (k : ∀ p H', H p = none → Sat H' (pts p (.lst (List.replicate n.toNat xs).flatten) :: As) → Q (.ref p) H') : rMulU (.ref a) (.int n) H Q :=
  ⟨a, n, xs, rfl, rfl, h, by omega, by omega, Nat.le_trans (Nat.mul_le_mul hz (show n.toNat ≤ 1000 by omega)) (by decide), fun p hp => k p _ hp (S.new hp)⟩
theorem cutV_neg1 {xs : List V} : cutV xs none (some (-1)) = xs.dropLast := by
  refine QBox.out ?_
  simp (disch :=
  refine qkeep ?_
  with_unfolding_all
  have e : cutV xs none (some (-1)) = (xs.drop (HT.sIx xs.length 0 none)).take (HT.sIx xs.length xs.length (some (-1)) - HT.sIx xs.length 0 none) := rfl
  have e1 : HT.sIx xs.length xs.length (some (-1)) = xs.length - 1 := by
    unfold HT.sIx
    simp
    omega
  rw [e, e1, HT.sIx_none, List.drop_zero, Nat.sub_zero, List.dropLast_eq_take]
  ) only [↓qboxT]

theorem w_slTn {K : PySem.W.Frag} {H : Hp} {Z : VK} {As : List Res} {a : Addr} {xs : List V} (S : Sat H As) (h : H a = some (.tup xs)) (hne : xs ≠ []) (k : ∀ q H', Sat H' (sh q (.tup xs.dropLast) :: As) → Z (.ref q) H') : rSlU K (.ref a) none (some (-1)) H Z := by
  refine QBox.out ?_
  simp (disch :=
  refine qkeep ?_
  with_unfolding_all
  have hpos := List.length_pos_iff.mpr hne
  refine .inr ⟨a, _, rfl, .of h, fun e => absurd e.2 ?_, fun _ p hp => ?_⟩
  · have e1 : HT.sIx xs.length xs.length (some (-1)) = xs.length - 1 := by
      unfold HT.sIx
      simp
      omega
    rw [e1]
    omega
  · rw [cutV_neg1]
    exact k p _ (S.newS hp)
  ) only [↓qboxT]

/-- a sign -/
def spSignW : Sp := fun vs H Q _ => ∃ (b : Addr) (more : List V) (R : List Res), vs = [.ref b] ∧ Sat H (BagA b more :: R) ∧ ∀ c H', c < 128 → Sat H' (BagA b more :: R) → Q (.str ⟨#[c]⟩) H'
theorem nmA_tx {x : Str} (h : nmA x) : TxOk x 8 := ⟨h.2.1, h.sg⟩
theorem cut_upT {xs : List V} {n : Nat} (h : n ≤ xs.length) : cutV xs none (some (n : Int)) = xs.take n := by
  refine QBox.out ?_
  simp (disch :=
  refine qkeep ?_
  with_unfolding_all
  rw [show cutV xs none (some ((n : Nat) : Int)) = (xs.drop (HT.sIx xs.length 0 none)).take (HT.sIx xs.length xs.length (some ((n : Nat) : Int)) - HT.sIx xs.length 0 none) from rfl, HT.sIx_nat, HT.sIx_none, List.drop_zero, Nat.sub_zero, Nat.min_eq_left h]
  ) only [↓qboxT]

theorem cut_fromT {xs : List V} {n : Nat} (h : n ≤ xs.length) : cutV xs (some (n : Int)) none = xs.drop n := by
  refine QBox.out ?_
  simp (disch :=
  refine qkeep ?_
  with_unfolding_all
  rw [show cutV xs (some ((n : Nat) : Int)) none = (xs.drop (HT.sIx xs.length 0 (some ((n : Nat) : Int)))).take (HT.sIx xs.length xs.length none - HT.sIx xs.length 0 (some ((n : Nat) : Int))) from rfl, HT.sIx_nat, HT.sIx_none, Nat.min_eq_left h, List.take_of_length_le (by rw [List.length_drop]; exact Nat.le_refl _)]
  ) only [↓qboxT]

/-- row[:n], row[n:] of a tuple -/
theorem w_slTo {K : PySem.W.Frag} {H : Hp} {Z : VK} {As : List Res} {a : Addr} {xs : List V} {n : Nat} (S : Sat H As) (h : H a = some (.tup xs)) (hn : n < xs.length) (k : ∀ q H', Sat H' (sh q (.tup (xs.take n)) :: As) → Z (.ref q) H') : rSlU K (.ref a) none (some (n : Int)) H Z :=
  w_slTJ xs.length S h rfl (cut_upT (Nat.le_of_lt hn)) (fun q => by
    have q := q.2
    rw [HT.sIx_nat] at q
    omega) k
theorem w_slFr {K : PySem.W.Frag} {H : Hp} {Z : VK} {As : List Res} {a : Addr} {xs : List V} {n : Nat} (S : Sat H As) (h : H a = some (.tup xs)) (hn : n ≤ xs.length) (h0 : 0 < n) (k : ∀ q H', Sat H' (sh q (.tup (xs.drop n)) :: As) → Z (.ref q) H') : rSlU K (.ref a) (some (n : Int)) none H Z :=
  w_slTJ xs.length S h rfl (cut_fromT hn) (fun q => by
    have q := q.1
    rw [HT.sIx_nat] at q
    omega) k
/-- (..) + (..), the second one may be empty -/
theorem w_catT2 {K : PySem.W.Frag} {H : Hp} {Z : VK} {As : List Res} {x : V} {xs ys : List V} {a b : Addr} (S : Sat H As) (ha : H a = some (.tup (x :: xs))) (hb : H b = some (.tup ys)) (hz : (x :: xs).length + ys.length ≤ 1000) (ka : Sat H (sh a (.tup (x :: xs)) :: As))
    (k : ∀ p H', Sat H' (sh p (.tup (x :: xs ++ ys)) :: As) → Z (.ref p) H') : rAddU K (.ref a) (.ref b) H Z := by
  cases ys with
  | nil => exact w_catT0 ha hb (by simpa using hz) (k a H (by rw [List.append_nil]; exact ka))
  | cons y ys => exact w_catT S ha hb hz fun p H' _ S => k p H' S
/-- _law_bent_row(bag, row, many) -/
def spBentRow : Sp := fun vs H Z _ => ∃ b wp ns rp, ∃ r : Str × List Dt, ∃ m : Nat, ∃ n R, vs = [.ref b, .ref rp, .int (m : Int)] ∧ WsOk ns ∧ RwOk r n ∧ n ≤ 90 ∧ m ≤ 100000 ∧ Sat H (BagA b [.ref wp] :: sh wp (.lst (ns.map V.str)) :: sh rp (.tup (.str r.1 :: r.2.map unV)) :: R) ∧
  ∀ r' p H', RwOk r' (n + 1) → Sat H' (DR (rwD r') (.ref p) :: BagA b [.ref wp] :: sh wp (.lst (ns.map V.str)) :: sh rp (.tup (.str r.1 :: r.2.map unV)) :: R) → Z (.ref p) H'
section
variable {P : Program} {w : World} {K : PySem.W.Frag} {mg : Str → Option Value} {base : Heap} {a_NoText a_HouseError : Addr}
theorem c__law_any_sign (T : Txt w K mg a_NoText a_HouseError) : Cl P w K mg base CX0 2 "_law_any_sign" spSignW := by
  refine QBox.out ?_
  simp (disch :=
  refine qkeep ?_
  with_unfolding_all
  have c__law_draw : Cl P w K mg base CX0 1 "_law_draw" spDraw := c__law_draw T
  refine T.f__law_any_sign.cl sc__law_any_sign (fun vs H Q E h => by obtain ⟨_, _, _, rfl, _⟩ := h; rfl) (fun f cdv A outer s H vs Q E hr h => ?_)
  obtain ⟨b, more, R, rfl, S, k⟩ := h
  refine ⟨_, (pss_cons (ps_set (i := 1) sc__law_any_sign.nd rfl (Or.inl rfl) pe_str)
 (pss_cons (ps_set (i := 1) sc__law_any_sign.nd rfl (Or.inl rfl) (pe_op (op_addU K) (pv 1) pe_str))
 (pss_cons (ps_if (pt_cmpR (op_eqU K hr.units) (pe_cl c__law_draw hr (by decide) pz0 rfl (pa_cons (pv 0) (pa_cons pe_int pa_nil))) pe_int (nomark _))
 (pss_one (ps_ret (pe_ix (ix_U K (hu_of hr)) (pv 1) (pe_cl c__law_draw hr (by decide) pz0 rfl (pa_cons (pv 0) (pa_cons pe_int pa_nil))) (fun _ _ => rfl))))
 pss_nil)
 (pss_one (ps_ret (pe_ix (ix_U K (hu_of hr)) (pv 1) (pe_cl c__law_draw hr (by decide) pz0 rfl (pa_cons (pv 0) (pa_cons pe_int pa_nil))) (fun _ _ => rfl))))))), ?_⟩
  walk_at "i"
  walk_at "xs"
  refine w_addSg (by decide +kernel) fun z hz => ?_
  have ok : z.length = 95 ∧ ∀ c ∈ tl z, c < 128 := by
    refine ⟨by rw [hz]; decide +kernel, ?_⟩
    have e : (tl z).all (fun c => decide (c < 128)) = true := by rw [hz]; decide +kernel
    exact fun c hc => of_decide_eq_true (List.all_eq_true.mp e c hc)
  clear hz
  walk_at "xs"
  refine w_draw S (by decide) (by decide) fun i H i0 i1 S => ?_
  walk_at "xs"
  refine w_ite (fun _ => ?_) (fun _ => ?_)
  · walk_at "xs"
    refine w_draw S (by decide) (by decide) fun i H i0 i1 S => ?_
    refine w_ixMS (by omega) i0 (by omega) fun c hc => ?_
    exact k c H (ok.2 c hc) S
  · walk_at "xs"
    refine w_draw S (by decide) (by decide) fun i H i0 i1 S => ?_
    refine w_ixMS (by omega) i0 (by omega) fun c hc => ?_
    exact k c H (ok.2 c hc) S
  ) only [↓qboxT]

theorem c__law_bent_row (T : Txt w K mg a_NoText a_HouseError) : Cl P w K mg base CX0 3 "_law_bent_row" spBentRow := by
  refine QBox.out ?_
  simp (disch :=
  refine qkeep ?_
  with_unfolding_all
  have c__law_draw : Cl P w K mg base CX0 1 "_law_draw" spDraw := c__law_draw T
  have c__law_number : Cl P w K mg base CX0 2 "_law_number" spNumW := c__law_number T
  have c__law_any_sign : Cl P w K mg base CX0 2 "_law_any_sign" spSignW := c__law_any_sign T
  have c__law_letters : Cl P w K mg base CX0 1 "_law_letters" spLetters := c__law_letters T
  refine T.f__law_bent_row.cl sc__law_bent_row (fun vs H Q E h => by obtain ⟨_, _, _, _, _, _, _, _, rfl, _⟩ := h; rfl) (fun f cdv A outer s H vs Q E hr h => ?_)
  obtain ⟨b, wp, ns, rp, r, m, n, R, rfl, hns, hr9, hn, hm, S, k⟩ := h
  refine ⟨_, (pss_cons (ps_set (i := 3) sc__law_bent_row.nd rfl (Or.inl rfl) (pe_cl c__law_draw hr (by decide) pz0 rfl (pa_cons (pv 0) (pa_cons pe_int pa_nil))))
 (pss_cons (ps_set (i := 4) sc__law_bent_row.nd rfl (Or.inl rfl) (pe_lst (pa_cons pe_int (pa_cons pe_int (pa_cons (pe_un un_negU pe_int) (pa_cons (pv 2) (pa_cons (pe_op op_subU (pv 2) pe_int) (pa_cons pe_int (pa_cons pe_int (pa_cons (pe_cl c__law_number hr (by decide) pz0 rfl (pa_cons (pv 0) pa_nil)) pa_nil))))))))))
 (pss_cons (ps_set (i := 5) sc__law_bent_row.nd rfl (Or.inl rfl) (pe_lst (pa_cons pe_str (pa_cons pe_str (pa_cons pe_str (pa_cons pe_str (pa_cons pe_str (pa_cons pe_str (pa_cons pe_str (pa_cons pe_str (pa_cons pe_str (pa_cons pe_str pa_nil))))))))))))
 (pss_cons (ps_set (i := 6) sc__law_bent_row.nd rfl (Or.inl rfl) (pe_ix (ix_U K (hu_of hr)) (pe_ix (ix_U K (hu_of hr)) (pv 0) pe_int (fun _ _ => rfl)) (pe_cl c__law_draw hr (by decide) pz0 rfl (pa_cons (pv 0) (pa_cons pe_int pa_nil))) (fun _ _ => rfl)))
 (pss_cons (ps_set (i := 7) sc__law_bent_row.nd rfl (Or.inl rfl) (pe_cl c__law_draw hr (by decide) pz0 rfl (pa_cons (pv 0) (pa_cons (pe_op (op_addU K) (pe_callB (call_lenU K) rfl T.n_len (by decide +kernel) (pa_cons (pv 6) pa_nil)) pe_int) pa_nil))))
 (pss_cons (ps_set (i := 5) sc__law_bent_row.nd rfl (Or.inl rfl) (pe_op (op_addU K) (pv 5) (pe_op op_mulU (pe_lst (pa_cons (pv 6) (pa_cons (pe_op (op_addU K) (pv 6) (pv 6)) (pa_cons (pe_op (op_addU K) (pe_op (op_addU K) (pe_slice (sl_U K) (pv 6) po_none (po_some (pv 7))) (pe_cl c__law_any_sign hr (by decide) pz0 rfl (pa_cons (pv 0) pa_nil))) (pe_slice (sl_U K) (pv 6) (po_some (pe_op (op_addU K) (pv 7) (pe_cl c__law_draw hr (by decide) pz0 rfl (pa_cons (pv 0) (pa_cons pe_int pa_nil))))) po_none)) pa_nil)))) pe_int)))
 (pss_cons (ps_set (i := 8) sc__law_bent_row.nd rfl (Or.inl rfl) (pe_ix (ix_U K (hu_of hr)) (pe_lst (pa_cons (pe_ix (ix_U K (hu_of hr)) (pv 4) (pe_cl c__law_draw hr (by decide) pz0 rfl (pa_cons (pv 0) (pa_cons pe_int pa_nil))) (fun _ _ => rfl)) (pa_cons (pe_ix (ix_U K (hu_of hr)) (pv 5) (pe_cl c__law_draw hr (by decide) pz0 rfl (pa_cons (pv 0) (pa_cons pe_int pa_nil))) (fun _ _ => rfl)) pa_nil))) (pe_op op_divU (pe_cl c__law_draw hr (by decide) pz0 rfl (pa_cons (pv 0) (pa_cons pe_int pa_nil))) pe_int) (fun _ _ => rfl)))
 (pss_cons (ps_if (pt_cmpR (op_eqU K hr.units) (pv 3) pe_int (nomark _))
 (pss_one (ps_ret (pe_op (op_addU K) (pv 1) (pe_tup (pa_cons (pv 8) pa_nil)))))
 pss_nil)
 (C8.pss_cut (ps_if (PW.pt (pw_and (pt_cmpR (op_eqU K hr.units) (pv 3) pe_int (nomark _)) (pw_and1 (pt_cmpR op_gtU (pe_callB (call_lenU K) rfl T.n_len (by decide +kernel) (pa_cons (pv 1) pa_nil)) pe_int (nomark _)))))
 (pss_one (ps_ret (pe_slice (sl_U K) (pv 1) po_none (po_some (pe_un un_negU pe_int)))))
 pss_nil)
 (pss_cons (ps_if (pt_cmpR (op_eqU K hr.units) (pv 3) pe_int (nomark _))
 (pss_cons (ps_set (i := 9) sc__law_bent_row.nd rfl (Or.inl rfl) (pe_op (op_addU K) (pe_callTy (L2.call_listD rfl) rfl T.n_list (by decide +kernel) (pa_cons (pe_cl0 c__law_letters hr (by decide) pz0 rfl) pa_nil)) (pe_lst (pa_cons pe_str (pa_cons pe_str (pa_cons pe_str (pa_cons pe_str (pa_cons pe_str (pa_cons pe_str pa_nil)))))))))
 (pss_one (ps_ret (pe_op (op_addU K) (pe_tup (pa_cons (pe_ix (ix_U K (hu_of hr)) (pv 9) (pe_cl c__law_draw hr (by decide) pz0 rfl (pa_cons (pv 0) (pa_cons pe_int pa_nil))) (fun _ _ => rfl)) pa_nil)) (pe_slice (sl_U K) (pv 1) (po_some pe_int) po_none)))))
 pss_nil)
 (pss_cons (ps_if (pt_cmpR (op_eqU K hr.units) (pe_callB (call_lenU K) rfl T.n_len (by decide +kernel) (pa_cons (pv 1) pa_nil)) pe_int (nomark _))
 (pss_one (ps_ret (pv 1)))
 pss_nil)
 (pss_cons (ps_set (i := 10) sc__law_bent_row.nd rfl (Or.inl rfl) (pe_op (op_addU K) pe_int (pe_cl c__law_draw hr (by decide) pz0 rfl (pa_cons (pv 0) (pa_cons (pe_op op_subU (pe_callB (call_lenU K) rfl T.n_len (by decide +kernel) (pa_cons (pv 1) pa_nil)) pe_int) pa_nil)))))
 (pss_one (ps_ret (pe_op (op_addU K) (pe_op (op_addU K) (pe_slice (sl_U K) (pv 1) po_none (po_some (pv 10))) (pe_tup (pa_cons (pv 8) pa_nil))) (pe_slice (sl_U K) (pv 1) (po_some (pe_op (op_addU K) (pv 10) pe_int)) po_none)))))))))))))))), ?_⟩
  have hrn := hr9.n
  have hrl : (V.str r.1 :: r.2.map unV).length = r.2.length + 1 := by rw [List.length_cons, List.length_map]
  walk_at "i"
  walk_at "xs"
  refine w_draw S (by decide) (by decide) fun wy H wy1 wy2 S => ?_
  walk_at "xs"
  refine ⟨b, _, _, rfl, S, fun nw H nw1 nw2 S => ?_⟩
  have hnw : nw.natAbs < 10 ^ 61 := by
    have hb : big = ((10 ^ 60 : Nat) : Int) := by decide +kernel
    have h2 : (10 : Nat) ^ 60 < 10 ^ 61 := by decide +kernel
    rw [hb] at nw1 nw2
    omega
  have h61 : (100000 : Nat) < 10 ^ 61 := by decide +kernel
  walk_at "xs"
  refine w_nL S fun Y H _ S => ?_
  walk_at "xs"
  refine w_nL S fun X H _ S => ?_
  walk_at "xs"
  refine w_bag5 S (by walk_at "pick") ?_
  walk_at "xs"
  refine w_draw (S.pick (A := BagA b [.ref wp]) (by walk_at "pick")) (by decide) (by decide) fun i H i0 i1 S => ?_
  have hl8 : (ns.map V.str).length = 8 := by rw [List.length_map]; exact hns.1
  refine w_ixM (by walk_at "h") i0 (by rw [hl8]; exact i1) fun v hv => ?_
  obtain ⟨x, hx, rfl⟩ := List.mem_map.mp hv
  have hxa := nmA_tx (hns.2 x hx)
  have hxl := hxa.len
  walk_at "xs"
  refine w_draw S (by omega) (by omega) fun kk H k1 k2 S => ?_
  walk_at "xs"
  refine w_addSg (by omega) fun z1 hz1 => ?_
  walk_at "xs"
  refine ⟨b, _, _, rfl, S, fun c H hc S => ?_⟩
  have t1 : TxOk (Txt.slice x none (some kk)) 8 := hxa.to k1
  have t1l := t1.len
  have t2 : TxOk (⟨#[c]⟩ : Str) 1 := TxOk.one (by omega)
  have t2l := t2.len
  refine w_addSg (by omega) fun z2 hz2 => ?_
  have t3 : TxOk z2 9 := by rw [hz2]; exact t1.app t2
  have t3l := t3.len
  walk_at "xs"
  refine w_draw S (by decide) (by decide) fun kd H kd1 kd2 S => ?_
  walk_at "xs"
  have t4 : TxOk (Txt.slice x (some (kk + kd)) none) 8 := hxa.from (by omega)
  have t4l := t4.len
  refine w_addSg (by omega) fun z3 hz3 => ?_
  have t5 : TxOk z3 17 := by rw [hz3]; exact t3.app t4
  have t6 : TxOk z1 16 := by rw [hz1]; exact hxa.app hxa
  clear hz1 hz2 hz3 t1 t2 t3 t4 t1l t2l t3l t4l
  walk_at "xs"
  refine w_nL S fun Z1 H _ S => ?_
  walk_at "xs"
  refine w_repL (n := 3) (xs := [.str x, .str z1, .str z3]) S (by walk_at "h") (by decide) (by decide) (show 3 ≤ 1000 by decide) fun Z2 H _ S => ?_
  replace S : Sat H (pts Z2 (.lst [.str x, .str z1, .str z3, .str x, .str z1, .str z3, .str x, .str z1, .str z3]) :: _) := S
  walk_at "xs"
  refine w_cat (xs := [.str "", .str "abcdefghi", .str "A", .str "a b", .str "abcdefgh", .str "name1", .str "a-b", .str "end", .str "1", .str "zzzzzzzz"]) (ys := [.str x, .str z1, .str z3, .str x, .str z1, .str z3, .str x, .str z1, .str z3]) S (by walk_at "h") (by walk_at "h") (show 10 + 9 ≤ 1000000 by decide) fun X2 H _ S => ?_
  have hxx := hxa.mono (show 8 ≤ 100 by decide)
  have h1x := t6.mono (show 16 ≤ 100 by decide)
  have h3x := t5.mono (show 17 ≤ 100 by decide)
  have htx : ∀ v ∈ ([.str "", .str "abcdefghi", .str "A", .str "a b", .str "abcdefgh", .str "name1", .str "a-b", .str "end", .str "1", .str "zzzzzzzz", .str x, .str z1, .str z3, .str x, .str z1, .str z3, .str x, .str z1, .str z3] : List V), ∃ z, v = .str z ∧ TxOk z 100 := by
    intro v hv
    simp only [List.mem_cons, List.not_mem_nil, or_false] at hv
    rcases hv with rfl | rfl | rfl | rfl | rfl | rfl | rfl | rfl | rfl | rfl | rfl | rfl | rfl | rfl | rfl | rfl | rfl | rfl | rfl
    · exact ⟨_, rfl, txOk_by (n := 100) (by decide +kernel)⟩
    · exact ⟨_, rfl, txOk_by (n := 100) (by decide +kernel)⟩
    · exact ⟨_, rfl, txOk_by (n := 100) (by decide +kernel)⟩
    · exact ⟨_, rfl, txOk_by (n := 100) (by decide +kernel)⟩
    · exact ⟨_, rfl, txOk_by (n := 100) (by decide +kernel)⟩
    · exact ⟨_, rfl, txOk_by (n := 100) (by decide +kernel)⟩
    · exact ⟨_, rfl, txOk_by (n := 100) (by decide +kernel)⟩
    · exact ⟨_, rfl, txOk_by (n := 100) (by decide +kernel)⟩
    · exact ⟨_, rfl, txOk_by (n := 100) (by decide +kernel)⟩
    · exact ⟨_, rfl, txOk_by (n := 100) (by decide +kernel)⟩
    · exact ⟨_, rfl, hxx⟩
    · exact ⟨_, rfl, h1x⟩
    · exact ⟨_, rfl, h3x⟩
    · exact ⟨_, rfl, hxx⟩
    · exact ⟨_, rfl, h1x⟩
    · exact ⟨_, rfl, h3x⟩
    · exact ⟨_, rfl, hxx⟩
    · exact ⟨_, rfl, h1x⟩
    · exact ⟨_, rfl, h3x⟩
  walk_at "xs"
  replace S : Sat H (pts X2 (.lst ([.str "", .str "abcdefghi", .str "A", .str "a b", .str "abcdefgh", .str "name1", .str "a-b", .str "end", .str "1", .str "zzzzzzzz", .str x, .str z1, .str z3, .str x, .str z1, .str z3, .str x, .str z1, .str z3] : List V)) :: _) := S
  refine w_draw (S.pick (A := BagA b [.ref wp]) (by walk_at "pick")) (by decide) (by decide) fun j1 H j10 j11 S => ?_
  refine w_ixP (fun v => ∃ i : Int, v = .int i ∧ i.natAbs < 10 ^ 61) (xs := [.int 8, .int 7, .int (-1), .int (m : Int), .int ((m : Int) - 1), .int 0, .int 60, .int nw]) (by walk_at "h") j10 (by exact j11) ⟨⟨_, rfl, by omega⟩, ⟨_, rfl, by omega⟩, ⟨_, rfl, by omega⟩, ⟨_, rfl, by omega⟩, ⟨_, rfl, by omega⟩, ⟨_, rfl, by omega⟩, ⟨_, rfl, by omega⟩, ⟨_, rfl, hnw⟩, trivial⟩ fun v hv => ?_
  obtain ⟨pi, rfl, hpi⟩ := hv
  walk_at "xs"
  refine w_draw S (by decide) (by decide) fun j2 H j20 j21 S => ?_
  refine w_ixM (xs := [.str "", .str "abcdefghi", .str "A", .str "a b", .str "abcdefgh", .str "name1", .str "a-b", .str "end", .str "1", .str "zzzzzzzz", .str x, .str z1, .str z3, .str x, .str z1, .str z3, .str x, .str z1, .str z3]) (by walk_at "h") j20 (by exact j21) fun v hv => ?_
  obtain ⟨pz, rfl, hpz⟩ := htx v hv
  clear hv htx
  walk_at "xs"
  refine w_nL S fun PP H _ S => ?_
  walk_at "xs"
  refine w_draw (S.pick (A := BagA b [.ref wp]) (by walk_at "pick")) (by decide) (by decide) fun j3 H j30 j31 S => ?_
  walk_at "xs"
  refine w_div (cdiv (by decide) (le_big (by decide))) ?_
  refine w_ixP (fun v => ∃ d, v = unV d ∧ PtOk d) (xs := [.int pi, .str pz]) (by walk_at "h") (by omega) (by show _ < (2 : Int); omega) ⟨⟨.int pi, rfl, .inl ⟨pi, rfl, hpi⟩⟩, ⟨.str pz, rfl, .inr ⟨pz, rfl, hpz⟩⟩, trivial⟩ fun v hv => ?_
  obtain ⟨pd, rfl, hpd⟩ := hv
  replace S : Sat H (BagA b [.ref wp] :: sh wp (.lst (ns.map V.str)) :: sh rp (.tup (.str r.1 :: r.2.map unV)) :: R) := S.to (by walk_at "s")
  have done : ∀ {r' : Str × List Dt} {p : Addr} {H}, RwOk r' (n + 1) → Sat H (sh p (.tup (.str r'.1 :: r'.2.map unV)) :: BagA b [.ref wp] :: sh wp (.lst (ns.map V.str)) :: sh rp (.tup (.str r.1 :: r.2.map unV)) :: R) → Q (.ref p) H := fun {r' p H} h S => k r' p H h (DR.ofRw h S)
  have same : ∀ {H}, Sat H (BagA b [.ref wp] :: sh wp (.lst (ns.map V.str)) :: sh rp (.tup (.str r.1 :: r.2.map unV)) :: R) → Q (.ref rp) H := fun {H} S => done (hr9.mono (Nat.le_succ n)) (((S.pick (A := sh rp (.tup (.str r.1 :: r.2.map unV))) (by walk_at "pick")).dup pers_sh).to (by walk_at "s"))
  walk_at "xs"
  refine w_ite (fun h0 => ?_) (fun h0 => ?_)
  · walk_at "xs"
    refine w_nT S fun q H _ S => ?_
    refine w_catT (x := .str r.1) (xs := r.2.map unV) (y := unV pd) (ys := []) S (by walk_at "h") (by walk_at "h") (by rw [hrl]; show r.2.length + 1 + 1 ≤ 1000; omega) fun p H _ S => ?_
    refine done (r' := (r.1, r.2 ++ [pd])) ⟨hr9.w, by rw [List.length_append]; show r.2.length + 1 ≤ n + 1; omega, fun d hd => ?_⟩ ?_
    · rcases List.mem_append.mp hd with h | h
      · exact hr9.ps d h
      · rw [List.mem_singleton.mp h]
        exact hpd
    · rw [show (V.str r.1 :: (r.2 ++ [pd]).map unV) = V.str r.1 :: r.2.map unV ++ unV pd :: [] by rw [List.map_append]; rfl]
      exact S.to (by walk_at "s")
  walk_at "xs"
  refine w_cut (fun σ H => σ = [some (.ref b), some (.ref rp), some (.int (m : Int)), some (.int wy), some (.ref Y), some (.ref X2), some (.str x), some (.int kk), some (unV pd), none, none] ∧ Sat H (BagA b [.ref wp] :: sh wp (.lst (ns.map V.str)) :: sh rp (.tup (.str r.1 :: r.2.map unV)) :: R)) ?_ ?_
  · walk_at "xs"
    refine w_ite (fun h1 => ?_) (fun h1 => ?_)
    · walk_at "xs"
      refine w_iteB (fun h2 => ?_) (fun h2 => ?_)
      · have h2 := of_decide_eq_true h2
        rw [hrl] at h2
        walk_at "xs"
        refine w_slTn S (by walk_at "h") (by exact fun h => nomatch h) fun q H S => ?_
        walk_at "xs"
        obtain ⟨ps, d, hps⟩ : ∃ ps d, r.2 = ps ++ [d] := by
          rcases List.eq_nil_or_concat r.2 with h | ⟨l, a, h⟩
          · rw [h] at h2
            exact absurd h2 (by decide)
          · exact ⟨l, a, by rw [h, List.concat_eq_append]⟩
        refine done (r' := (r.1, ps)) ⟨hr9.w, by have h3 := hrn; rw [hps, List.length_append] at h3; show ps.length ≤ n + 1; omega, fun d hd => hr9.ps d (by rw [hps]; exact List.mem_append_left _ hd)⟩ ?_
        have e : (V.str r.1 :: r.2.map unV).dropLast = V.str r.1 :: ps.map unV := by
          rw [hps, List.map_append]
          show (V.str r.1 :: ps.map unV ++ [unV d]).dropLast = _
          rw [List.dropLast_concat]
        rw [e] at S
        exact S.to (by walk_at "s")
      · walk_at "xs"
        exact ⟨rfl, S⟩
    · walk_at "xs"
      exact ⟨rfl, S⟩
  clear S
  rintro σ H ⟨rfl, S⟩
  walk_at "xs"
  refine w_ite (fun h2 => ?_) (fun h2 => ?_)
  · walk_at "xs"
    refine ⟨_, rfl, S, fun lp H S => ?_⟩
    walk_at "xs"
    refine ⟨lp, lets.map letKV, rfl, .inl S.read, fun wl hwl => ?_⟩
    have hw : (lets.map letKV).map (fun kv => kV kv.1) = (lets.map (·.1)).map V.str := by rw [List.map_map, List.map_map]; rfl
    rw [hw]
    replace S := S.new (o := .lst ((lets.map (·.1)).map V.str)) hwl
    generalize L2.upd H wl (.lst ((lets.map (·.1)).map V.str)) = H at S
    walk_at "xs"
    refine w_nL S fun Z5 H _ S => ?_
    refine w_cat (xs := (lets.map (·.1)).map V.str) (ys := [.str "", .str "Set", .str "sets", .str "free ", .str "no", .str "asks"]) S (by walk_at "h") (by walk_at "h") (show 17 + 6 ≤ 1000000 by decide) fun X5 H _ S => ?_
    have h23 : (((lets.map fun y : Str × Str => y.1).map V.str) ++ [V.str "", V.str "Set", V.str "sets", V.str "free ", V.str "no", V.str "asks"]).length = 23 := rfl
    walk_at "xs"
    refine w_draw (S.pick (A := BagA b [.ref wp]) (by walk_at "pick")) (by decide) (by decide) fun i5 H a5 b5 S => ?_
    refine w_ixM (by walk_at "h") a5 (by rw [h23]; exact b5) fun v hv => ?_
    obtain ⟨w5, rfl, hw5⟩ : ∃ z, v = .str z ∧ TxOk z 100 := by
      rcases List.mem_append.mp hv with h | h
      · obtain ⟨w0, hw0, rfl⟩ := List.mem_map.mp h
        obtain ⟨y, hy, rfl⟩ := List.mem_map.mp hw0
        have hall : lets.all (fun y => txC y.1 100) = true := by decide +kernel
        exact ⟨y.1, rfl, txOk_by (List.all_eq_true.mp hall y hy)⟩
      · simp only [List.mem_cons, List.not_mem_nil, or_false] at h
        rcases h with rfl | rfl | rfl | rfl | rfl | rfl
        all_goals exact ⟨_, rfl, txOk_by (n := 100) (by decide +kernel)⟩
    clear hv
    replace S : Sat H (BagA b [.ref wp] :: sh wp (.lst (ns.map V.str)) :: sh rp (.tup (.str r.1 :: r.2.map unV)) :: R) := S.to (by walk_at "s")
    walk_at "xs"
    refine w_nT S fun q5 H _ S => ?_
    walk_at "xs"
    refine w_slTl S (by walk_at "h") fun q6 H S => ?_
    refine w_catT2 (x := .str w5) (xs := []) (ys := r.2.map unV) S (by walk_at "h") (by walk_at "h") (by rw [List.length_map]; show 1 + r.2.length ≤ 1000; omega) (((S.pick (A := sh q5 (.tup [.str w5])) (by walk_at "pick")).dup pers_sh).to (by walk_at "s")) fun p H S => ?_
    exact done (r' := (w5, r.2)) ⟨hw5, by show r.2.length ≤ n + 1; omega, hr9.ps⟩ ((show Sat H (sh p (.tup (.str w5 :: r.2.map unV)) :: _) from S).to (by walk_at "s"))
  walk_at "xs"
  rw [hrl]
  refine w_ite (fun h3 => ?_) (fun h3 => ?_)
  · walk_at "xs"
    exact same S
  walk_at "xs"
  rw [hrl]
  refine w_draw S (by omega) (by omega) fun a0 H a1 a2 S => ?_
  obtain ⟨j, rfl⟩ : ∃ j : Nat, a0 = (j : Int) := ⟨a0.toNat, (Int.toNat_of_nonneg a1).symm⟩
  have hj : j < r.2.length := by omega
  walk_at "xs"
  have ej1 : (1 : Int) + (j : Int) = ((j + 1 : Nat) : Int) := by omega
  have ej2 : ((j + 1 : Nat) : Int) + 1 = ((j + 2 : Nat) : Int) := by omega
  rw [ej1]
  refine w_slTo (n := j + 1) S (by walk_at "h") (by rw [hrl]; omega) fun q7 H S => ?_
  replace S : Sat H (sh q7 (.tup (.str r.1 :: (r.2.map unV).take j)) :: BagA b [.ref wp] :: sh wp (.lst (ns.map V.str)) :: sh rp (.tup (.str r.1 :: r.2.map unV)) :: R) := S
  walk_at "xs"
  refine w_nT S fun q8 H _ S => ?_
  refine w_catT (x := .str r.1) (xs := (r.2.map unV).take j) (y := unV pd) (ys := []) S (by walk_at "h") (by walk_at "h") (by rw [List.length_cons, List.length_take, List.length_map]; show _ + 1 ≤ 1000; omega) fun q9 H _ S => ?_
  walk_at "xs"
  rw [ej2]
  refine w_slFr (n := j + 2) S (by walk_at "h") (by rw [hrl]; omega) (by omega) fun q10 H S => ?_
  replace S : Sat H (sh q10 (.tup ((r.2.map unV).drop (j + 1))) :: sh q9 (.tup (.str r.1 :: ((r.2.map unV).take j ++ [unV pd]))) :: sh q8 (.tup [unV pd]) :: sh q7 (.tup (.str r.1 :: (r.2.map unV).take j)) :: BagA b [.ref wp] :: sh wp (.lst (ns.map V.str)) :: sh rp (.tup (.str r.1 :: r.2.map unV)) :: R) := S
  refine w_catT2 (x := .str r.1) (xs := (r.2.map unV).take j ++ [unV pd]) (ys := (r.2.map unV).drop (j + 1)) S (by walk_at "h") (by walk_at "h") (by simp only [List.length_cons, List.length_append, List.length_take, List.length_drop, List.length_map, List.length_nil]; omega) (((S.pick (A := sh q9 (.tup (.str r.1 :: ((r.2.map unV).take j ++ [unV pd])))) (by walk_at "pick")).dup pers_sh).to (by walk_at "s")) fun p H S => ?_
  refine done (r' := (r.1, r.2.take j ++ [pd] ++ r.2.drop (j + 1))) ⟨hr9.w, by simp only [List.length_append, List.length_take, List.length_drop, List.length_cons, List.length_nil]; omega, fun d hd => ?_⟩ ?_
  · rcases List.mem_append.mp hd with h | h
    · rcases List.mem_append.mp h with h | h
      · exact hr9.ps d (List.mem_of_mem_take h)
      · rw [List.mem_singleton.mp h]
        exact hpd
    · exact hr9.ps d (List.mem_of_mem_drop h)
  · rw [show (V.str r.1 :: (r.2.take j ++ [pd] ++ r.2.drop (j + 1)).map unV) = V.str r.1 :: ((r.2.map unV).take j ++ [unV pd]) ++ (r.2.map unV).drop (j + 1) by rw [List.map_append, List.map_append, List.map_take, List.map_drop]; rfl]
    exact S.to (by walk_at "s")
  ) only [↓qboxT]

theorem c__law_wild_script (T : Txt w K mg a_NoText a_HouseError) : Cl P w K mg base CX0 5 "_law_wild_script" spWild := by
  refine QBox.out ?_
  simp (disch :=
  refine qkeep ?_
  with_unfolding_all
  have c__law_letters : Cl P w K mg base CX0 1 "_law_letters" spLetters := c__law_letters T
  have c__law_draw : Cl P w K mg base CX0 1 "_law_draw" spDraw := c__law_draw T
  have c__law_number : Cl P w K mg base CX0 2 "_law_number" spNumW := c__law_number T
  have c__law_any_row : Cl P w K mg base CX0 4 "_law_any_row" spAnyRow := c__law_any_row T
  refine T.f__law_wild_script.cl sc__law_wild_script (fun vs H Q E h => by obtain ⟨_, _, _, _, rfl, _⟩ := h; rfl) (fun f cdv A outer s H vs Q E hr h => ?_)
  obtain ⟨b, wp, ns, R, rfl, hns, S, k⟩ := h
  refine ⟨_, (pss_cons (ps_set (i := 1) sc__law_wild_script.nd rfl (Or.inl rfl) (pe_callTy (L2.call_listD rfl) rfl T.n_list (by decide +kernel) (pa_cons (pe_cl0 c__law_letters hr (by decide) pz0 rfl) pa_nil)))
 (pss_cons (ps_set (i := 2) sc__law_wild_script.nd rfl (Or.inl rfl) (pe_lst pa_nil))
 (pss_cons (ps_for PassesOwn.never rfl (pi_range1 rfl T.n_range (pa_cons (pe_op (op_addU K) (pe_ix (ix_U K (hu_of hr)) (pe_lst (pa_cons pe_int (pa_cons pe_int (pa_cons pe_int (pa_cons pe_int pa_nil))))) (pe_cl c__law_draw hr (by decide) pz0 rfl (pa_cons (pv 0) (pa_cons pe_int pa_nil))) (fun _ _ => rfl)) (pe_cl c__law_draw hr (by decide) pz0 rfl (pa_cons (pv 0) (pa_cons pe_int pa_nil)))) pa_nil)) (pg_name (i := 3) sc__law_wild_script.nd rfl (Or.inl rfl))
 (pss_cons (ps_set (i := 4) sc__law_wild_script.nd rfl (Or.inl rfl) (pe_tup pa_nil))
 (pss_cons (ps_for PassesOwn.never rfl (pi_seqK K (pe_cl c__law_any_row hr (by decide) pz0 rfl (pa_cons (pv 0) (pa_cons (pe_ix (ix_U K (hu_of hr)) (pv 1) (pe_cl c__law_draw hr (by decide) pz0 rfl (pa_cons (pv 0) (pa_cons pe_int pa_nil))) (fun _ _ => rfl)) (pa_cons pe_int pa_nil))))) (pg_name (i := 5) sc__law_wild_script.nd rfl (Or.inl rfl))
 (C8.pss_cut (ps_if (PW.pt (pw_and (pt_not (pt_truK K (pe_callB (call_isiU K) rfl T.n_isinstance (by decide +kernel) (pa_cons (pv 5) (pa_cons (pe_bltn (v := .ty "str") rfl T.n_str (by decide +kernel) rfl) pa_nil))) (fun _ => rfl))) (pw_and1 (pt_cmpR (op_eqU K hr.units) (pe_cl c__law_draw hr (by decide) pz0 rfl (pa_cons (pv 0) (pa_cons pe_int pa_nil))) pe_int (nomark _)))))
 (pss_one (ps_set (i := 5) sc__law_wild_script.nd rfl (Or.inl rfl) (pe_cl c__law_number hr (by decide) pz0 rfl (pa_cons (pv 0) pa_nil))))
 pss_nil)
 (pss_one (ps_set (i := 4) sc__law_wild_script.nd rfl (Or.inl rfl) (pe_op (op_addU K) (pv 4) (pe_tup (pa_cons (pv 5) pa_nil)))))))
 (pss_one (ps_expr (pe_bmK K PySem.F.plainAttrs_list PySem.F.slot_list_append PySem.F.type_list_append mt_append (pv 2) (pa_cons (pv 4) pa_nil)))))))
 (pss_one (ps_ret (pv 2)))))), ?_⟩
  walk_at "i"
  walk_at "xs"
  refine ⟨_, rfl, S, fun lp H S => ?_⟩
  walk_at "xs"
  refine ⟨lp, lets.map letKV, rfl, .inl S.read, fun wl hwl => ?_⟩
  have hw : (lets.map letKV).map (fun kv => kV kv.1) = (lets.map (·.1)).map V.str := by rw [List.map_map, List.map_map]; rfl
  rw [hw]
  replace S := S.new (o := .lst ((lets.map (·.1)).map V.str)) hwl
  generalize L2.upd H wl (.lst ((lets.map (·.1)).map V.str)) = H at S
  have h17 : ((lets.map (·.1)).map V.str).length = 17 := rfl
  walk_at "xs"
  refine w_nL S fun rp H _ S => ?_
  walk_at "xs"
  refine w_nL S fun p0 H _ S => ?_
  walk_at "xs"
  refine w_draw (S.pick (A := BagA b [.ref wp]) (by walk_at "pick")) (by decide) (by decide) fun d6 H d7 d8 S => ?_
  refine w_ixP (fun v => ∃ n : Nat, v = .int (n : Int) ∧ 1 ≤ n ∧ n ≤ 70) (xs := [.int 1, .int 4, .int 12, .int 70]) (by walk_at "h") d7 (by exact d8) ⟨⟨1, rfl, by omega, by omega⟩, ⟨4, rfl, by omega, by omega⟩, ⟨12, rfl, by omega, by omega⟩, ⟨70, rfl, by omega, by omega⟩, trivial⟩ fun v hv => ?_
  obtain ⟨n, rfl, hn1, hn70⟩ := hv
  walk_at "xs"
  refine w_draw S (by decide) (by decide) fun d3 H d4 d5 S => ?_
  walk_at "xs"
  rw [show (n : Int) + d3 = ((n + d3.toNat : Nat) : Int) by omega]
  have hm : n + d3.toNat ≤ 80 := by omega
  have hm1 : 1 ≤ n + d3.toNat := by omega
  generalize n + d3.toNat = m at hm hm1
  refine w_r1N (by omega) ?_
  replace S : Sat H (pts rp (.lst []) :: BagA b [.ref wp] :: sh wp (.lst (ns.map V.str)) :: pts wl (.lst ((lets.map (·.1)).map V.str)) :: R) := S.to (by walk_at "s")
  refine w_forR (fun i σ H => ∃ acc v3 v4 v5, σ = [some (.ref b), some (.ref wl), some (.ref rp), v3, v4, v5] ∧ acc.length = i ∧ Sat H (RsG i acc :: pts rp (.lst acc) :: BagA b [.ref wp] :: sh wp (.lst (ns.map V.str)) :: pts wl (.lst ((lets.map (·.1)).map V.str)) :: R)) ⟨[], _, _, _, rfl, rfl, RsG.close (rs := []) ⟨rfl, fun _ h => absurd h List.not_mem_nil⟩ (DsR.nil S)⟩ ?_ ?_
  · clear S
    rintro i σ H hi ⟨acc, v3, v4, v5, rfl, hal, S⟩
    walk_at "xs"
    refine w_nT S fun e0 H _ S => ?_
    walk_at "xs"
    refine w_sqT ?_
    walk_at "xs"
    refine w_draw (S.pick (A := BagA b [.ref wp]) (by walk_at "pick")) (by decide) (by decide) fun i4 H a4 b4 S => ?_
    refine w_ixM (by walk_at "h") a4 (by rw [h17]; exact b4) fun v hv => ?_
    obtain ⟨w0, hw0, rfl⟩ := List.mem_map.mp hv
    obtain ⟨x, hx, rfl⟩ := List.mem_map.mp hw0
    walk_at "xs"
    refine ⟨b, wp, ns, x, 60, _, rfl, hx, by omega, by omega, hns, S.to (Bs := BagA b [.ref wp] :: sh wp (.lst (ns.map V.str)) :: sh e0 (.tup []) :: RsG i acc :: pts rp (.lst acc) :: pts wl (.lst ((lets.map (·.1)).map V.str)) :: R) (by walk_at "s"), fun ds q H hg S => ?_⟩
    refine w_stV (by walk_at "h") ?_
    have hdl := hg.len
    have hl4 := lets_len x hx
    have hul : (V.str x.1 :: ds.map unV).length = ds.length + 1 := by rw [List.length_cons, List.length_map]
    refine w_forK (walk_tup (K := K) (a := q) (xs := .str x.1 :: ds.map unV)) (fun j σ H => ∃ as : List Dt, ∃ t v3 v5, σ = [some (.ref b), some (.ref wl), some (.ref rp), v3, some (.ref t), v5] ∧ as.length = j ∧ (∀ d es, as = d :: es → d = .str x.1 ∧ PtsG ((tl x.2).take (j - 1)) es) ∧ Sat H (sh t (.tup (as.map unV)) :: sh q (.tup (.str x.1 :: ds.map unV)) :: RsG i acc :: pts rp (.lst acc) :: BagA b [.ref wp] :: sh wp (.lst (ns.map V.str)) :: pts wl (.lst ((lets.map (·.1)).map V.str)) :: R)) ⟨[], e0, _, _, rfl, rfl, (fun _ _ h => nomatch h), S.to (Bs := sh e0 (.tup []) :: sh q (.tup (.str x.1 :: ds.map unV)) :: RsG i acc :: pts rp (.lst acc) :: BagA b [.ref wp] :: sh wp (.lst (ns.map V.str)) :: pts wl (.lst ((lets.map fun y : Str × Str => y.1).map V.str)) :: R) (by walk_at "s")⟩ (fun i σ H _ ⟨_, _, _, _, _, _, _, S⟩ => .of (by walk_at "h")) ?_ ?_
    · clear S
      rintro j y σ H H' hj ⟨as, t, v3, v5, rfl, hasl, hac, S⟩ ⟨rfl, hy⟩
      have hy : ((Dt.str x.1 :: ds).map unV)[j]? = some y := hy
      obtain ⟨d, hd, rfl⟩ := at_map hy
      have hst : ∀ (d2 : Dt) (v5 : Option V) (H : Hp) (pp : Addr), (∀ d' es, as ++ [d2] = d' :: es → d' = .str x.1 ∧ PtsG ((tl x.2).take (j + 1 - 1)) es) → True := fun _ _ _ _ _ => trivial
      clear hst
      have fin : ∀ (d2 : Dt), (j = 0 → d2 = .str x.1) → (∀ c, 1 ≤ j → (tl x.2)[j - 1]? = some c → ptG c d2) → ∀ d' es, as ++ [d2] = d' :: es → d' = .str x.1 ∧ PtsG ((tl x.2).take (j + 1 - 1)) es := by
        intro d2 h0 h1 d' es e
        cases as with
        | nil =>
          cases e
          have : j = 0 := hasl.symm
          subst this
          exact ⟨h0 rfl, .nil⟩
        | cons a as =>
          rw [List.cons_append] at e
          injection e with e1 e2
          subst e1 e2
          obtain ⟨ha, hp⟩ := hac a as rfl
          refine ⟨ha, ?_⟩
          have hj1 : 1 ≤ j := by rw [← hasl, List.length_cons]; omega
          obtain ⟨c, hc⟩ : ∃ c, (tl x.2)[j - 1]? = some c := ⟨_, List.getElem?_eq_getElem (by rw [hul] at hj; omega)⟩
          have e2 : (tl x.2).take (j + 1 - 1) = (tl x.2).take (j - 1) ++ [c] := by
            rw [show j + 1 - 1 = (j - 1) + 1 by omega]
            exact take_succ_of hc
          rw [e2]
          exact hp.snoc (h1 c hj1 hc)
      have hpd : ∀ c, 1 ≤ j → (tl x.2)[j - 1]? = some c → ptG c d := fun c hj1 hc => by
        obtain ⟨j', rfl⟩ : ∃ j', j = j' + 1 := ⟨j - 1, by omega⟩
        have hd : ds[j']? = some d := hd
        obtain ⟨c', hc', g⟩ := hg.at hd
        have hc : (tl x.2)[j']? = some c := hc
        cases hc.symm.trans hc'
        exact g
      have hp0 : j = 0 → d = .str x.1 := fun e => by
        subst e
        cases hd
        rfl
      have hpt : PtOk d := by
        rcases List.mem_cons.mp (List.mem_of_getElem? hd) with rfl | h
        · exact .inr ⟨_, rfl, lets_tx x hx⟩
        · exact hg.ok d h
      have cat : ∀ (d2 : Dt) (σ : L2.St) (H : Hp) (Z : VK), (j = 0 → d2 = .str x.1) → (∀ c, 1 ≤ j → (tl x.2)[j - 1]? = some c → ptG c d2) → Sat H (sh t (.tup (as.map unV)) :: sh q (.tup (.str x.1 :: ds.map unV)) :: RsG i acc :: pts rp (.lst acc) :: BagA b [.ref wp] :: sh wp (.lst (ns.map V.str)) :: pts wl (.lst ((lets.map (·.1)).map V.str)) :: R) →
          (∀ p H', (∀ d' es, as ++ [d2] = d' :: es → d' = .str x.1 ∧ PtsG ((tl x.2).take (j + 1 - 1)) es) → Sat H' (sh p (.tup ((as ++ [d2]).map unV)) :: sh q (.tup (.str x.1 :: ds.map unV)) :: RsG i acc :: pts rp (.lst acc) :: BagA b [.ref wp] :: sh wp (.lst (ns.map V.str)) :: pts wl (.lst ((lets.map (·.1)).map V.str)) :: R) → Z (.ref p) H') → kTup (fun y H1 => rAddU K (.ref t) y H1 Z) [unV d2] H := by
        intro d2 σ H Z h0 h1 S kk
        refine w_nT S fun y H _ S => ?_
        have hy : Sat H (sh y (.tup [unV d2]) :: sh t (.tup (as.map unV)) :: sh q (.tup (.str x.1 :: ds.map unV)) :: RsG i acc :: pts rp (.lst acc) :: BagA b [.ref wp] :: sh wp (.lst (ns.map V.str)) :: pts wl (.lst ((lets.map (·.1)).map V.str)) :: R) := S
        cases has : as with
        | nil =>
          rw [has] at S
          replace S : Sat H (sh y (.tup [unV d2]) :: sh t (.tup []) :: sh q (.tup (.str x.1 :: ds.map unV)) :: RsG i acc :: pts rp (.lst acc) :: BagA b [.ref wp] :: sh wp (.lst (ns.map V.str)) :: pts wl (.lst ((lets.map (·.1)).map V.str)) :: R) := S
          refine w_catTe (by walk_at "h") (by walk_at "h") (by show 1 ≤ 1000; decide) (by simp) ?_
          refine kk y H (fin d2 h0 h1) ?_
          rw [has]
          exact S.to (Bs := sh y (.tup [unV d2]) :: sh q (.tup (.str x.1 :: ds.map unV)) :: RsG i acc :: pts rp (.lst acc) :: BagA b [.ref wp] :: sh wp (.lst (ns.map V.str)) :: pts wl (.lst ((lets.map (·.1)).map V.str)) :: R) (by walk_at "s")
        | cons a as2 =>
          rw [has] at S
          replace S : Sat H (sh y (.tup [unV d2]) :: sh t (.tup (unV a :: as2.map unV)) :: _) := S
          refine w_catT (x := unV a) (xs := as2.map unV) (y := unV d2) (ys := []) S (by walk_at "h") (by walk_at "h") ?_ fun p H _ S => ?_
          · have e1 : as.length = as2.length + 1 := by rw [has, List.length_cons]
            rw [hul] at hj
            simp only [List.length_cons, List.length_map, List.length_nil]
            omega
          · refine kk p H (fin d2 h0 h1) ?_
            rw [has, show ((a :: as2) ++ [d2]).map unV = unV a :: as2.map unV ++ [unV d2] by rw [List.map_append]; rfl]
            exact S.to (by walk_at "s")
      walk_at "xs"
      refine w_cut (fun σ H => ∃ d2 : Dt, σ = [some (.ref b), some (.ref wl), some (.ref rp), v3, some (.ref t), some (unV d2)] ∧ (j = 0 → d2 = .str x.1) ∧ (∀ c, 1 ≤ j → (tl x.2)[j - 1]? = some c → ptG c d2) ∧ Sat H (sh t (.tup (as.map unV)) :: sh q (.tup (.str x.1 :: ds.map unV)) :: RsG i acc :: pts rp (.lst acc) :: BagA b [.ref wp] :: sh wp (.lst (ns.map V.str)) :: pts wl (.lst ((lets.map (·.1)).map V.str)) :: R)) ?_ ?_
      · rcases hpt with ⟨pi, rfl, hpi⟩ | ⟨pz, rfl, hpz⟩
        · dsimp only [unV]
          walk_at "xs"
          refine w_isi (r := false) (.int pi) rfl ?_
          walk_at "xs"
          refine w_draw (S.pick (A := BagA b [.ref wp]) (by walk_at "pick")) (by decide) (by decide) fun i8 H a8 b8 S => ?_
          walk_at "xs"
          refine w_ite (fun h8 => ?_) (fun h8 => ?_)
          · walk_at "xs"
            refine ⟨b, _, _, rfl, S, fun nw H n1 n2 S => ?_⟩
            walk_at "xs"
            refine ⟨.int nw, rfl, fun e => ?_, fun c hj1 hc => ?_, S.to (by walk_at "s")⟩
            · have := hp0 e
              cases this
            · have g := hpd c hj1 hc
              have hc97 : c ≠ 97 := fun e => by
                obtain ⟨_, e2, _⟩ := g.1 e
                cases e2
              refine ⟨fun e => absurd e hc97, fun _ => ⟨nw, rfl, ?_⟩⟩
              have hb : big = ((10 ^ 60 : Nat) : Int) := by decide +kernel
              rw [hb] at n1 n2
              omega
          · walk_at "xs"
            exact ⟨.int pi, rfl, hp0, hpd, S.to (by walk_at "s")⟩
        · dsimp only [unV]
          walk_at "xs"
          refine w_isi (r := true) (.str pz) rfl ?_
          walk_at "xs"
          exact ⟨.str pz, rfl, hp0, hpd, S.to (by walk_at "s")⟩
      clear S
      rintro σ H ⟨d2, rfl, h0, h1, S⟩
      walk_at "xs"
      refine cat d2 [] H _ h0 h1 S fun p H hf S => ?_
      walk_at "xs"
      exact ⟨as ++ [d2], p, _, _, rfl, by rw [List.length_append, hasl]; rfl, hf, S⟩
    clear S
    rintro σ H ⟨as, t, v3, v5, rfl, hasl, hac, S⟩
    obtain ⟨d, es, rfl⟩ : ∃ d es, as = d :: es := by
      cases as with
      | nil => rw [hul] at hasl; exact absurd hasl (by simp)
      | cons d es => exact ⟨d, es, rfl⟩
    obtain ⟨rfl, hp⟩ := hac d es rfl
    rw [hul, List.take_of_length_le (by omega)] at hp
    replace S : Sat H (sh t (.tup (.str x.1 :: es.map unV)) :: sh q (.tup (.str x.1 :: ds.map unV)) :: RsG i acc :: pts rp (.lst acc) :: BagA b [.ref wp] :: sh wp (.lst (ns.map V.str)) :: pts wl (.lst ((lets.map (·.1)).map V.str)) :: R) := S
    walk_at "xs"
    refine p_app S (by walk_at "pick") (by omega) fun H S => ?_
    walk_at "xs"
    refine ⟨acc ++ [.ref t], _, _, _, rfl, by rw [List.length_append, hal]; rfl, ?_⟩
    exact (RsG.snoc (r := (x.1, es)) ⟨x, hx, rfl, hp⟩ (S.to (Bs := sh t (.tup (.str x.1 :: es.map unV)) :: RsG i acc :: pts rp (.lst (acc ++ [.ref t])) :: BagA b [.ref wp] :: sh wp (.lst (ns.map V.str)) :: pts wl (.lst ((lets.map (·.1)).map V.str)) :: R) (by walk_at "s")))
  clear S
  rintro σ H ⟨acc, v3, v4, v5, rfl, hal, S⟩
  walk_at "xs"
  obtain ⟨rs, ⟨hrl, hro⟩, S⟩ := RsG.open S
  exact k rs rp _ H hro (by omega) (by omega) (S.to (by walk_at "s"))
  ) only [↓qboxT]

end
end Law
namespace Law
open PySem PySem.Spec PyProof.Rows L2 L2H Q
def figsOf (z : Str) : Str := if Txt.slice z none (some 1) = ("-" : Str) then Txt.slice z (some 1) none else z
def notFigs (f : Str) : List Nat := (tl f).filter fun c => !decide (c ∈ tl ("0123456789" : Str))
def okW (z : Str) (m : Int) : Prop := 1 ≤ (figsOf z).length ∧ ((figsOf z).length : Int) ≤ m ∧ notFigs (figsOf z) = [] ∧ ¬ ((tl (figsOf z)).head? = some 48 ∧ z ≠ ("0" : Str))
instance (z : Str) (m : Int) : Decidable (okW z m) := by unfold okW; infer_instance
theorem figs_tl : tl ("0123456789" : Str) = [48, 49, 50, 51, 52, 53, 54, 55, 56, 57] := by decide +kernel
theorem slice1 {z : Str} : Txt.slice z none (some 1) = SX.S ((tl z).take 1) := by
  have e := SX.slice_to (a := tl z) (i := 1) (by decide)
  rw [SX.S_tl] at e
  exact e
theorem slice1n {z : Str} : Txt.slice z (some 1) none = SX.S ((tl z).drop 1) := by
  have e := SX.slice_from (a := tl z) (i := 1) (by decide)
  rw [SX.S_tl] at e
  exact e
theorem figsOf_len (z : Str) : (figsOf z).length ≤ z.length := by
  unfold figsOf
  split
  · rw [slice1n, SX.S_len, List.length_drop, tl_len]
    omega
  · exact Nat.le_refl _
theorem figsOf_sub {z : Str} {c : Nat} (h : c ∈ tl (figsOf z)) : c ∈ tl z := by
  unfold figsOf at h
  split at h
  · rw [slice1n] at h
    exact List.mem_of_mem_drop h
  · exact h
abbrev dgs (m : Nat) : List Nat := (Nat.toDigits 10 m).map Char.toNat
theorem dgs_all (m : Nat) : PySem.NumText.AllDigits (dgs m) := by
  intro c hc
  obtain ⟨ch, hch, e⟩ := List.mem_map.mp hc
  have r := PyProof.Rows.digit_range (Nat.isDigit_of_mem_toDigits (by decide) (by decide) hch)
  rw [← e]
  exact r
theorem dgs_len {m : Nat} (h : m < 10 ^ 60) : (dgs m).length ≤ 60 := by
  refine QBox.out ?_
  simp (disch :=
  refine qkeep ?_
  with_unfolding_all
  have e := (Nat.length_repr_le_iff (n := m) (k := 60) (by decide)).mpr h
  rw [List.length_map]
  have e2 : (Nat.repr m).length = (Nat.toDigits 10 m).length := by
    rw [← Nat.toList_repr, String.length_toList]
  omega
  ) only [↓qboxT]

theorem dgs_ne (m : Nat) : dgs m ≠ [] := fun e => by
  have h : (Nat.toDigits 10 m) = [] := List.map_eq_nil_iff.mp e
  have h2 : (Nat.repr m).toList = [] := by rw [Nat.toList_repr, h]
  have h3 := PySem.W.KIN.val_back m
  have e0 : PySem.NumText.digitsVal [] = m := by rw [← h3, h]; rfl
  have e1 : m = 0 := e0.symm
  rw [e1] at h
  exact absurd h (by decide)
theorem dgs_head {m : Nat} {r : List Nat} (h : dgs m = 48 :: r) : r = [] := by
  refine QBox.out ?_
  simp (disch :=
  refine qkeep ?_
  with_unfolding_all
  have h1 := PySem.NumText.toDigits_all (dgs m) (dgs_all m)
  rw [PySem.W.KIN.val_back m] at h1
  have hl : (dgs m).length = r.length + 1 := by rw [h, List.length_cons]
  rw [List.length_map, h1, h, List.dropWhile_cons, if_pos (by rfl)] at hl
  have hd := List.dropWhile_sublist (l := r) (p := fun x => x == 48) |>.length_le
  cases e : r.dropWhile (fun x => x == 48) with
  | nil =>
    rw [e] at hl
    have hl : 1 = r.length + 1 := hl
    exact List.eq_nil_of_length_eq_zero (by omega)
  | cons c s =>
    rw [e] at hl hd
    have hl : ((c :: s).map Char.ofNat).length = r.length + 1 := hl
    rw [List.length_map] at hl
    omega
  ) only [↓qboxT]

theorem tl_nat (m : Nat) : tl (Str.ofString (toString ((m : Nat) : Int))) = dgs m := PySem.W.KIN.signs_num m
theorem tl_neg (m : Nat) : tl (Str.ofString (toString (Int.negSucc m))) = 45 :: dgs (m + 1) := by
  show (Str.ofString ("-" ++ Nat.repr (m + 1))).cps.toList = _
  rw [PyProof.Rows.signs_ofString, String.toList_append, List.map_append, Nat.toList_repr]
  rfl
theorem notFigs_dgs {z : Str} {m : Nat} (e : tl z = dgs m) : notFigs z = [] := by
  unfold notFigs
  rw [List.filter_eq_nil_iff, e]
  intro c hc
  have h := dgs_all m c hc
  rw [figs_tl]
  simp
  omega
theorem okW_num {i : Int} (h : i.natAbs < 10 ^ 60) : okW (Str.ofString (toString i)) 60 ∧ PySem.intText? (Str.ofString (toString i)) = some i ∧ (Str.ofString (toString i)).length ≤ 61 := by
  refine QBox.out ?_
  simp (disch :=
  refine qkeep ?_
  with_unfolding_all
  cases i with
  | ofNat m =>
    have e : tl (Str.ofString (toString (Int.ofNat m))) = dgs m := tl_nat m
    have hm : m < 10 ^ 60 := h
    have hl := dgs_len hm
    have hlen : (Str.ofString (toString (Int.ofNat m))).length = (dgs m).length := by rw [← e, tl_len]
    have ef : figsOf (Str.ofString (toString (Int.ofNat m))) = Str.ofString (toString (Int.ofNat m)) := by
      unfold figsOf
      rw [if_neg]
      intro c
      rw [slice1] at c
      have c := congrArg tl c
      have c : (tl (Str.ofString (toString (Int.ofNat m)))).take 1 = [45] := c
      rw [e] at c
      have hc : (45 : Nat) ∈ dgs m := List.mem_of_mem_take (by rw [c]; exact List.mem_singleton.mpr rfl)
      have := dgs_all m 45 hc
      omega
    have hne := dgs_ne m
    have hpos : 1 ≤ (dgs m).length := Nat.pos_of_ne_zero fun q => hne (List.eq_nil_of_length_eq_zero q)
    refine ⟨⟨by rw [ef]; omega, by rw [ef]; omega, by rw [ef]; exact notFigs_dgs e, ?_⟩, ?_, by omega⟩
    · rw [ef]
      rintro ⟨h1, h2⟩
      rw [e] at h1
      obtain ⟨r, hr⟩ : ∃ r, dgs m = 48 :: r := by
        cases q : dgs m with
        | nil => exact absurd q hne
        | cons a r => rw [q] at h1; cases h1; exact ⟨r, rfl⟩
      have hr0 := dgs_head hr
      subst hr0
      refine h2 (List.cons.inj (TL.map_tl_inj (show [Str.ofString (toString (Int.ofNat m))].map tl = [("0" : Str)].map tl from ?_))).1
      rw [List.map_singleton, List.map_singleton, e, hr]
      decide +kernel
    · have q := PySem.intText_digits (x := Str.ofString (toString (Int.ofNat m))) (by rw [show (Str.ofString (toString (Int.ofNat m))).cps.toList = dgs m from e]; exact dgs_all m) (by rw [show (Str.ofString (toString (Int.ofNat m))).cps.toList = dgs m from e]; exact hne) (by omega)
      rw [show (Str.ofString (toString (Int.ofNat m))).cps.toList = dgs m from e, PySem.W.KIN.val_back] at q
      exact q
  | negSucc m =>
    have e : tl (Str.ofString (toString (Int.negSucc m))) = 45 :: dgs (m + 1) := tl_neg m
    have hm : m + 1 < 10 ^ 60 := h
    have hl := dgs_len hm
    have hlen : (Str.ofString (toString (Int.negSucc m))).length = (dgs (m + 1)).length + 1 := by rw [← tl_len, e, List.length_cons]
    have ef : figsOf (Str.ofString (toString (Int.negSucc m))) = SX.S (dgs (m + 1)) := by
      unfold figsOf
      rw [if_pos]
      · rw [slice1n, e]
        rfl
      · rw [slice1, e]
        show SX.S [45] = ("-" : Str)
        decide +kernel
    have hne := dgs_ne (m + 1)
    have hpos : 1 ≤ (dgs (m + 1)).length := Nat.pos_of_ne_zero fun q => hne (List.eq_nil_of_length_eq_zero q)
    have hsl : (SX.S (dgs (m + 1))).length = (dgs (m + 1)).length := SX.S_len _
    have hst : tl (SX.S (dgs (m + 1))) = dgs (m + 1) := rfl
    refine ⟨⟨by rw [ef]; omega, by rw [ef]; omega, by rw [ef]; exact notFigs_dgs hst, ?_⟩, ?_, by omega⟩
    · rw [ef, hst]
      rintro ⟨h1, _⟩
      obtain ⟨r, hr⟩ : ∃ r, dgs (m + 1) = 48 :: r := by
        cases q : dgs (m + 1) with
        | nil => exact absurd q hne
        | cons a r => rw [q] at h1; cases h1; exact ⟨r, rfl⟩
      have hr0 := dgs_head hr
      subst hr0
      have h3 := PySem.W.KIN.val_back (m + 1)
      have h3 : PySem.NumText.digitsVal (dgs (m + 1)) = m + 1 := h3
      rw [hr] at h3
      exact absurd h3 (by show ¬ (0 = m + 1); omega)
    · have q := PySem.intText_neg (x := Str.ofString (toString (Int.negSucc m))) e (dgs_all (m + 1)) hne (by omega)
      rw [PySem.W.KIN.val_back] at q
      exact q
  ) only [↓qboxT]

theorem joinL_mem {z : List Nat} {c : Nat} : ∀ {ps : List (List Nat)}, c ∈ TL.joinL z ps → c ∈ z ∨ ∃ p ∈ ps, c ∈ p
  | [], h => absurd h List.not_mem_nil
  | [p], h => .inr ⟨p, List.mem_cons_self, h⟩
  | p :: q :: r, h => by
    have h : c ∈ p ++ (z ++ TL.joinL z (q :: r)) := h
    rcases List.mem_append.mp h with h | h
    · exact .inr ⟨p, List.mem_cons_self, h⟩
    · rcases List.mem_append.mp h with h | h
      · exact .inl h
      · rcases joinL_mem h with h | ⟨s, hs, h⟩
        · exact .inl h
        · exact .inr ⟨s, List.mem_cons_of_mem _ hs, h⟩
theorem join_mem {z : Str} {ws : List Str} {c : Nat} (h : c ∈ tl (Txt.join z ws)) : c ∈ tl z ∨ ∃ x ∈ ws, c ∈ tl x := by
  refine QBox.out ?_
  simp (disch :=
  refine qkeep ?_
  with_unfolding_all
  have e : tl (Txt.join z ws) = TL.joinL (tl z) (ws.map tl) := (congrArg tl (TL.join_eq z ws)).trans (TL.tl_join _ _)
  rw [e] at h
  rcases joinL_mem h with h | ⟨p, hp, h⟩
  · exact .inl h
  · obtain ⟨x, hx, rfl⟩ := List.mem_map.mp hp
    exact .inr ⟨x, hx, h⟩
  ) only [↓qboxT]

theorem lets_az : ∀ x ∈ lets, ∀ c ∈ tl x.1, 97 ≤ c ∧ c ≤ 122 := by
  refine QBox.out ?_
  simp (disch :=
  refine qkeep ?_
  with_unfolding_all
  intro x hx c hc
  have h : lets.all (fun y => (tl y.1).all fun c => decide (97 ≤ c ∧ c ≤ 122)) = true := by decide +kernel
  exact of_decide_eq_true (List.all_eq_true.mp (List.all_eq_true.mp h x hx) c hc)
  ) only [↓qboxT]

theorem abc_az : ∀ c ∈ tl abc, 97 ≤ c ∧ c ≤ 122 := by
  intro c hc
  have h : (tl abc).all (fun c => decide (97 ≤ c ∧ c ≤ 122)) = true := by decide +kernel
  exact of_decide_eq_true (List.all_eq_true.mp h c hc)
theorem ptG.free {c : Nat} {d : Dt} (h : ptG c d) {k : Nat} (h1 : k ≠ 45) (h2 : k < 48) : k ∉ tl (txD d) := by
  refine QBox.out ?_
  simp (disch :=
  refine qkeep ?_
  with_unfolding_all
  by_cases e : c = 97
  · obtain ⟨x, rfl, hx⟩ := h.1 e
    intro hk
    have := abc_az k (hx.2.2 k hk)
    omega
  · obtain ⟨i, rfl, _⟩ := h.2 e
    exact PyProof.Rows.int_text_free' k ⟨h1, .inl h2⟩ i
  ) only [↓qboxT]

theorem GRow.free {r : Str × List Dt} (h : GRow r) {k : Nat} (h1 : k ≠ 45) (h2 : k < 48) : ∀ z ∈ (Dt.str r.1 :: r.2).map txD, k ∉ tl z := by
  refine QBox.out ?_
  simp (disch :=
  refine qkeep ?_
  with_unfolding_all
  obtain ⟨x, hx, e, g⟩ := h
  intro z hz hk
  obtain ⟨d, hd, rfl⟩ := List.mem_map.mp hz
  rcases List.mem_cons.mp hd with rfl | hd
  · have hk : k ∈ tl r.1 := hk
    rw [e] at hk
    have := lets_az x hx k hk
    omega
  · obtain ⟨j, hj⟩ := List.getElem?_of_mem hd
    obtain ⟨c, _, gc⟩ := g.at hj
    exact gc.free h1 h2 hk
  ) only [↓qboxT]

theorem GRow.split {r : Str × List Dt} (h : GRow r) : Txt.split (wrRow r) " " = (Dt.str r.1 :: r.2).map txD :=
  TL.split_join (s := 32) (S := []) (by decide +kernel) (by decide +kernel) (by simp) (h.free (by decide) (by decide))
theorem wr_split {rs : List (Str × List Dt)} (h : ∀ r ∈ rs, GRow r) (hn : 1 ≤ rs.length) : Txt.split (wr rs) "\n" = rs.map wrRow :=
  TL.split_join (s := 10) (S := []) (by decide +kernel) (by decide +kernel) (fun e => by
    rw [List.map_eq_nil_iff] at e
    rw [e] at hn
    exact absurd hn (by decide)) fun z hz hk => by
    obtain ⟨r, hr, rfl⟩ := List.mem_map.mp hz
    rcases join_mem hk with q | ⟨x, hx, q⟩
    · exact absurd q (by decide +kernel)
    · exact (h r hr).free (by decide) (by decide) x hx q
end Law
namespace Law
open PySem PySem.Spec PyProof.Rows L2 L2H Q
theorem txD_ch {c : Nat} {d : Dt} (h : ptG c d) : ∀ k ∈ tl (txD d), k < 1114112 := by
  refine QBox.out ?_
  simp (disch :=
  refine qkeep ?_
  with_unfolding_all
  by_cases e : c = 97
  · obtain ⟨x, rfl, hx⟩ := h.1 e
    exact hx.sg
  · obtain ⟨i, rfl, _⟩ := h.2 e
    intro k hk
    refine Nat.lt_of_not_le fun q => ?_
    exact PyProof.Rows.int_text_free' k ⟨by omega, .inr (by omega)⟩ i hk
  ) only [↓qboxT]

/-- read_whole(text, most), of a number's text -/
def spWholeOk : Sp := fun vs H Q _ => ∃ (i : Int) (R : List Res), vs = [.str (Str.ofString (toString i)), .int 60] ∧ i.natAbs < 10 ^ 60 ∧ Sat H R ∧ ∀ H', Sat H' R → Q (.int i) H'
/-- read_part(text, letter) -/
def spPartOk : Sp := fun vs H Q _ => ∃ (d : Dt) (c : Nat) (R : List Res), vs = [.str (txD d), .str ⟨#[c]⟩] ∧ ptG c d ∧ Sat H R ∧ ∀ H', Sat H' R → Q (unV d) H'
/-- read_row(line) -/
def spRowOk : Sp := fun vs H Q _ => ∃ (r : Str × List Dt) (R : List Res), vs = [.str (wrRow r)] ∧ GRow r ∧ Sat H R ∧ ∀ p H', Sat H' (sh p (.tup (.str r.1 :: r.2.map unV)) :: R) → Q (.ref p) H'
/-- read(text) -/
def spReadOk : Sp := fun vs H Q _ => ∃ (rs : List (Str × List Dt)) (R : List Res), vs = [.str (wr rs)] ∧ (∀ r ∈ rs, GRow r) ∧ 1 ≤ rs.length ∧ rs.length ≤ 100 ∧ Sat H R ∧ ∀ p us H', Sat H' (pts p (.lst us) :: DsR (rs.map rwD) us :: R) → Q (.ref p) H'
theorem parts_lets : ∀ x ∈ lets, lkT parts17 x.1 = some x.2 := by
  refine QBox.out ?_
  simp (disch :=
  refine qkeep ?_
  with_unfolding_all
  intro x hx
  unfold lets at hx
  simp only [List.mem_cons, List.not_mem_nil, or_false] at hx
  rcases hx with rfl | rfl | rfl | rfl | rfl | rfl | rfl | rfl | rfl | rfl | rfl | rfl | rfl | rfl | rfl | rfl | rfl <;> decide +kernel
  ) only [↓qboxT]

theorem isName_nmA {x : Str} (h : nmA x) : isName x = true := by
  refine QBox.out ?_
  simp (disch :=
  refine qkeep ?_
  with_unfolding_all
  unfold isName
  rw [decide_eq_true h.1, decide_eq_true h.2.1, List.filter_eq_nil_iff.mpr fun c hc => ?_]
  · rfl
  · have := h.2.2 c hc
    simp only [Bool.not_eq_true', decide_eq_false_iff_not, Classical.not_not]
    exact this
  ) only [↓qboxT]

theorem w_newStrs {ys : List Str} {H : Hp} {Z : VK} {As : List Res} (S : Sat H As) (k : ∀ p H', Sat H' (pts p (.lst (ys.map V.str)) :: As) → Z (.ref p) H') : L2.rNewStrs ys H Z := fun p hp => k p _ (S.new hp)
def kZipL (K : PySem.W.Frag) (R : It → Hp → Prop) : List V → Hp → Prop := fun vs H1 => ∃ b x ys, vs = [.ref b, .str x] ∧ SqL K H1 b ys ∧ R (RZL.ItzL K b x) H1
theorem w_zipL {K : PySem.W.Frag} {R : It → Hp → Prop} {tr : TA} {σ : L2.St} {H : Hp} (k : tr σ H (kZipL K R)) : RZL.iZipL K tr σ H R := k
theorem w_zipLV {K : PySem.W.Frag} {R : It → Hp → Prop} {x : Str} {b : Addr} {ys : List V} {H : Hp} (hb : H b = some (.lst ys)) (k : R (RZL.ItzL K b x) H) : kZipL K R [.ref b, .str x] H := ⟨b, x, ys, rfl, .of hb, k⟩
theorem cut_one (x : V) (xs : List V) : cutV (x :: xs) none (some 1) = [x] := by
  show cutV (x :: xs) none (some ((1 : Nat) : Int)) = [x]
  rw [cut_upT (by rw [List.length_cons]; omega)]
  rfl
theorem wr_len {rs : List (Str × List Dt)} (h : ∀ r ∈ rs, RwOk r 100) (hl : rs.length ≤ 1000) : (wr rs).length ≤ 10202000 := by
  refine QBox.out ?_
  simp (disch :=
  refine qkeep ?_
  with_unfolding_all
  have h1 := join_len "\n" (rs.map wrRow)
  have h2 : ((rs.map wrRow).map (·.length)).sum ≤ (rs.map wrRow).length * 10201 := sum_le fun z hz => by
    obtain ⟨r, hr, rfl⟩ := List.mem_map.mp hz
    exact wrRow_len (h r hr)
  rw [List.length_map] at h1 h2
  rw [show ("\n" : Str).length = 1 by decide +kernel] at h1
  show (Txt.join "\n" (rs.map wrRow)).length ≤ 10202000
  omega
  ) only [↓qboxT]

section
variable {P : Program} {w : World} {K : PySem.W.Frag} {mg : Str → Option Value} {base : Heap} {a_NoText a_HouseError : Addr}
theorem c_read_whole (T : Txt w K mg a_NoText a_HouseError) : Cl P w K mg base CX0 1 "read_whole" spWholeOk := by
  refine QBox.out ?_
  simp (disch :=
  refine qkeep ?_
  with_unfolding_all
  refine T.f_read_whole.cl sc_read_whole (fun vs H Q E h => by obtain ⟨_, _, rfl, _⟩ := h; rfl) (fun f cdv A outer s H vs Q E hr h => ?_)
  obtain ⟨i, R, rfl, hi, S, k⟩ := h
  refine ⟨_, (pss_cons (ps_set (i := 2) sc_read_whole.nd rfl (Or.inl rfl) (pv 0))
 (C8.pss_cut (ps_if (pt_cmpR (op_eqU K hr.units) (pe_slice (sl_U K) (pv 0) po_none (po_some pe_int)) pe_str (nomark _))
 (pss_one (ps_set (i := 2) sc_read_whole.nd rfl (Or.inl rfl) (pe_slice (sl_U K) (pv 0) (po_some pe_int) po_none)))
 pss_nil)
 (pss_cons (ps_if (PW.pt (pw_or (pt_not (pt_chain op_leU op_leU pe_int (pe_callB (call_lenU K) rfl T.n_len (by decide +kernel) (pa_cons (pv 2) pa_nil)) (pv 1))) (pw_or1 (pt_cmpR (op_neU K hr.units) (pe_lc (own := [("sign", 3)]) (g := gName 3) rfl sc_read_whole.nd (pi_seqK K (pv 2)) (blkOk_by (N := ["text", "most", "figures", "sign"]) (sc := defScope s_read_whole) (by decide +kernel)) (fun _ _ _ _ _ => (pg_name (i := 3) sc_read_whole.nd rfl (Or.inl rfl))) (fun _ _ _ _ _ => pts_one (pt_cmpR (op_notinU K (hu65 hr)) (pv 3) (pe_gv rfl T.k_FIGURES) (by with_unfolding_all rfl))) (fun _ _ _ _ _ => (pv 3))) (pe_lst pa_nil) (nomark _)))))
 (pss_one ps_never)
 pss_nil)
 (pss_cons (ps_if (PW.pt (pw_and (pt_cmpR (op_eqU K hr.units) (pe_ix (ix_U K (hu_of hr)) (pv 2) pe_int (fun _ _ => rfl)) pe_str (nomark _)) (pw_and1 (pt_cmpR (op_neU K hr.units) (pv 0) pe_str (nomark _)))))
 (pss_one ps_never)
 pss_nil)
 (pss_one (ps_ret (pe_callTy call_intU rfl T.n_int (by decide +kernel) (pa_cons (pv 0) pa_nil)))))))), ?_⟩
  obtain ⟨o, hn, hlen⟩ := okW_num hi
  have hc : ∀ c ∈ tl (Str.ofString (toString i)), c < 1114112 := txD_ch (d := .int i) (c := 0) ⟨(fun e => nomatch e), fun _ => ⟨i, rfl, hi⟩⟩
  generalize Str.ofString (toString i) = z at o hn hlen hc
  walk_at "i"
  walk_at "xs"
  refine w_cut (fun σ H => σ = [some (.str z), some (.int 60), some (.str (figsOf z)), none] ∧ Sat H R) ?_ ?_
  · walk_at "xs"
    refine w_ite (fun h => ?_) (fun h => ?_)
    · walk_at "xs"
      refine ⟨?_, S⟩
      unfold figsOf
      rw [if_pos h]
      rfl
    · walk_at "xs"
      refine ⟨?_, S⟩
      unfold figsOf
      rw [if_neg h]
      rfl
  · rintro σ H ⟨rfl, S⟩
    have hl := figsOf_len z
    obtain ⟨o1, o2, o3, o4⟩ := o
    walk_at "xs"
    refine w_ite (fun a1 => ?_) (fun a1 => absurd (by omega) a1)
    · walk_at "xs"
      refine w_iteN (fun a2 => absurd o2 a2) (fun a2 => ?_)
      · walk_at "xs"
        refine w_sqS ?_
        walk_at "xs"
        refine w_ssV (w_nots (by simp) (by omega) S fun D H S => ?_)
        refine w_lst (w_nil (w_newL S (by decide) fun p H _ S => ?_))
        refine w_neC (by walk_at "h") (by walk_at "h") (fun c h => hc c (figsOf_sub (List.mem_filter.mp h).1)) ?_
        replace S := S.to (Bs := R) (by walk_at "s")
        walk_at "xs"
        refine w_iteB (fun a3 => ?_) (fun a3 => ?_)
        · have o3 : ((tl (figsOf z)).filter fun c => !decide (c ∈ tl ("0123456789" : Str))) = [] := o3
          rw [o3] at a3
          cases a3
        · obtain ⟨c, r, hcr⟩ : ∃ c r, tl (figsOf z) = c :: r := by
            cases e : tl (figsOf z) with
            | nil =>
              have := tl_len (figsOf z)
              rw [e] at this
              simp at this
              omega
            | cons c r => exact ⟨c, r, rfl⟩
          walk_at "xs"
          refine w_ixS (c := c) (by omega) ?_ ?_
          · show atI (tl (figsOf z)) 0 = some c
            rw [hcr]
            exact atI_nat (j := 0) rfl
          walk_at "xs"
          refine w_ite (fun a4 => ?_) (fun a4 => ?_)
          · have c48 : c = 48 := by
              have e : tl ("0" : Str) = [48] := by decide +kernel
              have q : [c] = [48] := (congrArg tl a4).trans e
              exact (List.cons.inj q).1
            walk_at "xs"
            refine w_iteN (fun a5 => absurd ⟨by rw [hcr, c48]; rfl, a5⟩ o4) (fun a5 => ?_)
            · walk_at "xs"
              exact ⟨_, rfl, i, hn, by omega, k H S⟩
          · walk_at "xs"
            exact ⟨_, rfl, i, hn, by omega, k H S⟩
  ) only [↓qboxT]

theorem c_read_part (T : Txt w K mg a_NoText a_HouseError) : Cl P w K mg base CX0 2 "read_part" spPartOk := by
  refine QBox.out ?_
  simp (disch :=
  refine qkeep ?_
  with_unfolding_all
  have c_read_whole : Cl P w K mg base CX0 1 "read_whole" spWholeOk := c_read_whole T
  have c_is_name : Cl P w K mg base CX0 1 "is_name" spName := c_is_name T
  refine T.f_read_part.cl sc_read_part (fun vs H Q E h => by obtain ⟨_, _, _, rfl, _⟩ := h; rfl) (fun f cdv A outer s H vs Q E hr h => ?_)
  obtain ⟨d, c, R, rfl, hg, S, k⟩ := h
  refine ⟨_, (pss_cons (ps_if (pt_cmpR (op_neU K hr.units) (pv 1) pe_str (nomark _))
 (pss_one (ps_ret (pe_cl c_read_whole hr (by decide) pz0 rfl (pa_cons (pv 0) (pa_cons (pe_gv rfl T.k_MOST_FIGURES) pa_nil)))))
 pss_nil)
 (pss_cons (ps_if (pt_not (pt_truK K (pe_cl c_is_name hr (by decide) pz0 rfl (pa_cons (pv 0) pa_nil)) (fun _ => rfl)))
 (pss_one ps_never)
 pss_nil)
 (pss_one (ps_ret (pv 0))))), ?_⟩
  walk_at "i"
  walk_at "xs"
  refine w_iteN (fun h1 => ?_) (fun h1 => ?_)
  · have hc : c ≠ 97 := fun e => h1 (by rw [e]; decide +kernel)
    obtain ⟨i, rfl, hi⟩ := hg.2 hc
    walk_at "xs"
    exact ⟨i, R, rfl, hi, S, k⟩
  · have hc : c = 97 := by
      have q : [c] = tl ("a" : Str) := congrArg tl h1
      rw [show tl ("a" : Str) = [97] by decide +kernel] at q
      exact (List.cons.inj q).1
    obtain ⟨x, rfl, hx⟩ := hg.1 hc
    walk_at "xs"
    refine ⟨x, R, rfl, Nat.le_trans hx.2.1 (by decide), hx.sg, S, fun H S => ?_⟩
    rw [isName_nmA hx]
    walk_at "xs"
    exact k H S
  ) only [↓qboxT]

theorem c_read_row (T : Txt w K mg a_NoText a_HouseError) : Cl P w K mg base CX0 3 "read_row" spRowOk := by
  refine QBox.out ?_
  simp (disch :=
  refine qkeep ?_
  with_unfolding_all
  have c_read_part : Cl P w K mg base CX0 2 "read_part" spPartOk := c_read_part T
  refine T.f_read_row.cl sc_read_row (fun vs H Q E h => by obtain ⟨_, _, rfl, _⟩ := h; rfl) (fun f cdv A outer s H vs Q E hr h => ?_)
  obtain ⟨r, R, rfl, hg, S, k⟩ := h
  refine ⟨_, (pss_cons (ps_set (i := 1) sc_read_row.nd rfl (Or.inl rfl) (pe_bmK K PySem.F.plainAttrs_str PySem.F.slot_str_split PySem.F.type_str_split mt_split (pv 0) (pa_cons pe_str pa_nil)))
 (pss_cons (ps_set (i := 2) sc_read_row.nd rfl (Or.inl rfl) (pe_bget (hu_of hr) T.b_PARTS (by decide +kernel) rfl (pe_ix (ix_U K (hu_of hr)) (pv 1) pe_int (fun _ _ => rfl)) ⟨rfl, rfl, rfl, rfl⟩))
 (pss_cons (ps_if (PW.pt (pw_or (pt_cmpR op_isU (pv 2) pe_non (nomark _)) (pw_or1 (pt_cmpR (op_neU K hr.units) (pe_callB (call_lenU K) rfl T.n_len (by decide +kernel) (pa_cons (pv 1) pa_nil)) (pe_op (op_addU K) (pe_callB (call_lenU K) rfl T.n_len (by decide +kernel) (pa_cons (pv 2) pa_nil)) pe_int) (nomark _)))))
 (pss_one ps_never)
 pss_nil)
 (pss_one (ps_ret (pe_callTy (call_tupleK K) rfl T.n_tuple (by decide +kernel) (pa_cons (pe_op (op_addU K) (pe_slice (sl_U K) (pv 1) po_none (po_some pe_int)) (pe_lc (own := [("text", 3), ("letter", 4)]) (g := (gTup K 2 (gCons (gName 3) (gCons (gName 4) gNil)))) (tt := tYes) rfl sc_read_row.nd (RZL.pi_zipL rfl T.n_zip (pa_cons (pe_slice (sl_U K) (pv 1) (po_some pe_int) po_none) (pa_cons (pv 2) pa_nil))) (blkOk_by (N := ["line", "words", "letters", "text", "letter"]) (sc := defScope s_read_row) (by decide +kernel)) (fun _ _ _ _ _ => (pg_tupK K rfl (pgs_cons (pg_name (i := 3) sc_read_row.nd rfl (Or.inl rfl)) (pgs_cons (pg_name (i := 4) sc_read_row.nd rfl (Or.inl rfl)) pgs_nil)))) (fun _ _ _ _ _ => pts_nil) (fun _ _ _ _ _ => (pe_cl c_read_part hr (by decide) pz0 rfl (pa_cons (pv 3) (pa_cons (pv 4) pa_nil)))))) pa_nil))))))), ?_⟩
  have hsp := hg.split
  obtain ⟨⟨wd, ls⟩, hx, hr1, hps⟩ := id hg
  have hlk := parts_lets _ hx
  have hl4 := lets_len _ hx
  dsimp only at hr1 hps hlk hl4
  have hpl := hps.len
  have hwl := wrRow_len (hg.ok.mono (show 4 ≤ 100 by decide))
  rw [← hr1] at hlk
  walk_at "i"
  walk_at "xs"
  refine ⟨_, _, rfl, rfl, by decide +kernel, by rw [PySem.sizeLine_eq]; omega, ?_⟩
  rw [hsp]
  refine w_newStrs S fun ws H S => ?_
  replace S : Sat H (pts ws (.lst (.str r.1 :: (r.2.map txD).map V.str)) :: R) := S
  have hwsl : (V.str r.1 :: (r.2.map txD).map V.str).length = r.2.length + 1 := by rw [List.length_cons, List.length_map, List.length_map]
  walk_at "xs"
  refine w_bget ?_
  walk_at "xs"
  refine ⟨.inr r.1, rfl, ?_⟩
  rw [val_bg, hlk]
  show gName 2 (V.str ls) _ _ _
  walk_at "xs"
  refine w_no (fun h => nomatch h) ?_
  walk_at "xs"
  have e0 : ((V.str r.1 :: (r.2.map txD).map V.str).length : Int) = (ls.length : Int) + 1 := by
    rw [hwsl, hpl, tl_lenT]
    omega
  rw [e0]
  walk_at "xs"
  refine w_iteN (fun h1 => ?_) (fun _ => ?_)
  · exact absurd rfl h1
  walk_at "xs"
  refine w_slLP S (by walk_at "h") fun q1 H S => ?_
  rw [cut_one] at S
  walk_at "xs"
  refine w_zipL ?_
  walk_at "xs"
  refine w_slLP S (by walk_at "h") fun q2 H S => ?_
  rw [cut_tail] at S
  walk_at "xs"
  refine w_zipLV (ys := (r.2.map txD).map V.str) (by walk_at "h") ?_
  have hsz : ls.cps.size = r.2.length := by rw [hpl, tl_lenT]; rfl
  refine w_lcK (RZL.walk_zipL (K := K) (x := ls) (b := q2) (ys := (r.2.map txD).map V.str) (n := r.2.length) (by rw [List.length_map, List.length_map, hsz, Nat.min_self])) (by omega) (fun i acc => acc = (r.2.take i).map unV) (fun _ _ => pts q2 (.lst ((r.2.map txD).map V.str)) :: pts q1 (.lst [.str r.1]) :: pts ws (.lst (.str r.1 :: (r.2.map txD).map V.str)) :: R) rfl S (fun i acc D H _ S => .of (by walk_at "h")) ?_ ?_
  · clear S
    rintro i acc D y0 H3 H4 hi hz hlen rfl S ⟨TT, c, y, rfl, hT, rfl, hc, hy⟩
    obtain ⟨z, hz2, rfl⟩ := at_map hy
    obtain ⟨d, hd, rfl⟩ := at_map hz2
    obtain ⟨c', hc', g⟩ := hps.at hd
    have hcc : (tl ls)[i]? = some c := by
      rw [← hc]
      simp
    cases hcc.symm.trans hc'
    have S1 := S.newS (o := .tup [.str (txD d), .str ⟨#[c]⟩]) hT
    clear S
    have S := S1
    clear S1
    generalize L2.upd H3 TT (.tup [.str (txD d), .str ⟨#[c]⟩]) = H5 at S ⊢
    walk_at "xs"
    refine ⟨rfl, ?_⟩
    walk_at "xs"
    refine ⟨d, c, _, rfl, g, S, fun H S => ?_⟩
    refine w_el hlen hz ?_ (S.to (by walk_at "s"))
    rw [take_succ_of hd, List.map_append]
    rfl
  clear S
  rintro D acc H hlen rfl S
  rw [List.take_of_length_le (Nat.le_refl _)] at S
  refine w_cat S (by walk_at "h") (by walk_at "h") (by show 1 + (r.2.map unV).length ≤ _; rw [List.length_map]; omega) fun l2 H _ S => ?_
  refine w_nil (w_tupOf S (by walk_at "h") fun q H S => ?_)
  replace S : Sat H (sh q (.tup (.str r.1 :: r.2.map unV)) :: _) := S
  exact k q H (S.to (by walk_at "s"))
  ) only [↓qboxT]

theorem c_read (T : Txt w K mg a_NoText a_HouseError) : Cl P w K mg base CX0 4 "read" spReadOk := by
  refine QBox.out ?_
  simp (disch :=
  refine qkeep ?_
  with_unfolding_all
  have c_read_row : Cl P w K mg base CX0 3 "read_row" spRowOk := c_read_row T
  refine T.f_read.cl sc_read (fun vs H Q E h => by obtain ⟨_, _, rfl, _⟩ := h; rfl) (fun f cdv A outer s H vs Q E hr h => ?_)
  obtain ⟨rs, R, rfl, hg, hn1, hn, S, k⟩ := h
  refine ⟨_, (pss_one (ps_ret (pe_lc (own := [("line", 1)]) (g := gName 1) (tt := tYes) rfl sc_read.nd (pi_seqK K (pe_bmK K PySem.F.plainAttrs_str PySem.F.slot_str_split PySem.F.type_str_split mt_split (pv 0) (pa_cons pe_str pa_nil))) (blkOk_by (N := ["text", "line"]) (sc := defScope s_read) (by decide +kernel)) (fun _ _ _ _ _ => (pg_name (i := 1) sc_read.nd rfl (Or.inl rfl))) (fun _ _ _ _ _ => pts_nil) (fun _ _ _ _ _ => (pe_cl c_read_row hr (by decide) pz0 rfl (pa_cons (pv 1) pa_nil)))))), ?_⟩
  have hsp := wr_split hg hn1
  have hwl := wr_len (fun r hr => (hg r hr).ok.mono (show 4 ≤ 100 by decide)) (show rs.length ≤ 1000 by omega)
  walk_at "i"
  walk_at "xs"
  refine w_sqL ?_
  walk_at "xs"
  refine ⟨_, _, rfl, rfl, by decide +kernel, by rw [PySem.sizeLine_eq]; omega, ?_⟩
  rw [hsp]
  refine w_newStrs S fun ws H S => ?_
  refine w_slV (by walk_at "h") ?_
  have hwsl : ((rs.map wrRow).map V.str).length = rs.length := by rw [List.length_map, List.length_map]
  refine w_lcK (walk_list (K := K) (a := ws) (xs := (rs.map wrRow).map V.str)) (by omega) (fun _ _ => True) (fun i acc => DsR ((rs.take i).map rwD) acc :: pts ws (.lst ((rs.map wrRow).map V.str)) :: R) trivial (DsR.nil S) (fun i acc D H _ S => .of (by walk_at "h")) ?_ ?_
  · clear S
    rintro i acc D y H H' hi hz hlen - S ⟨rfl, hy⟩
    obtain ⟨z, hz2, rfl⟩ := at_map hy
    obtain ⟨r, hr, rfl⟩ := at_map hz2
    walk_at "xs"
    refine ⟨rfl, ?_⟩
    walk_at "xs"
    refine ⟨r, _, rfl, hg r (List.mem_of_getElem? hr), S, fun p H S => ?_⟩
    refine w_el hlen hz trivial ?_
    have S1 := DsR.snoc ((DR.ofRw (hg r (List.mem_of_getElem? hr)).ok S).to (Bs := DR (rwD r) (.ref p) :: DsR ((rs.take i).map rwD) acc :: pts D (.lst acc) :: pts ws (.lst ((rs.map wrRow).map V.str)) :: R) (by walk_at "s"))
    rw [show (rs.take i).map rwD ++ [rwD r] = (rs.take (i + 1)).map rwD by rw [take_succ_of hr, List.map_append]; rfl] at S1
    exact S1.perm (List.Perm.swap _ _ _)
  clear S
  rintro D acc H hlen - S
  rw [hwsl, List.take_of_length_le (Nat.le_refl _)] at S
  exact k D acc H (S.to (by walk_at "s"))
  ) only [↓qboxT]

end
end Law
namespace Law
open PySem PySem.Spec PyProof.Rows L2 L2H Q
/-- _law_alike(found, due): alike -/
def spAlike (n : Nat) : Sp := fun vs H Z _ => ∃ x y, vs = [x, y] ∧ Al H n x y ∧ ∀ H', Ext H H' → Z (.bl true) H'
section
variable {P : Program} {w : World} {K : PySem.W.Frag} {mg : Str → Option Value} {base : Heap} {a_NoText a_HouseError : Addr}
theorem scal_kinds {x : V} (s : Scal x) : ∃ (t : Value) (bb bi bs : Bool), (∀ H, TyOf K H x t) ∧ PySem.W.kitAny K t [.type "list", .type "tuple"] = some false ∧ PySem.W.kitOne K t (.type "bool") = some bb ∧ PySem.W.kitOne K t (.type "int") = some bi ∧ PySem.W.kitOne K t (.type "str") = some bs := by
  refine QBox.out ?_
  simp (disch :=
  refine qkeep ?_
  with_unfolding_all
  cases s with
  | non => exact ⟨_, _, _, _, fun _ => .non, rfl, rfl, rfl, rfl⟩
  | bl b => exact ⟨_, _, _, _, fun _ => .bl b, rfl, rfl, rfl, rfl⟩
  | int i => exact ⟨_, _, _, _, fun _ => .int i, rfl, rfl, rfl, rfl⟩
  | str z => exact ⟨_, _, _, _, fun _ => .str z, rfl, rfl, rfl, rfl⟩
  ) only [↓qboxT]

theorem w_eqSc {x : V} {H : Hp} {Z : VK} (s : Scal x) (k : Z (.bl true) H) : rEqU K x x H Z := by
  refine QBox.out ?_
  simp (disch :=
  refine qkeep ?_
  with_unfolding_all
  have e : decide (x = x) = true := decide_eq_true rfl
  cases s with
  | non => exact .inl ⟨rfl, by rw [e]; exact k⟩
  | bl b => exact .inl ⟨rfl, by rw [e]; exact k⟩
  | int i => exact .inl ⟨rfl, by rw [e]; exact k⟩
  | str z => exact .inl ⟨rfl, by rw [e]; exact k⟩
  ) only [↓qboxT]

theorem w_isiT {x : V} {tp : Addr} {cs : List V} {us : List Value} {t : Value} {r : Bool} {H : Hp} {Z : VK} (ht : H tp = some (.tup cs)) (p : Paired ClsV cs us) (ty : TyOf K H x t) (e : PySem.W.kitAny K t us = some r) (k : Z (.bl r) H) : rIsiU K [x, .ref tp] H Z :=
  .inr ⟨x, tp, cs, t, us, r, rfl, ht, p, .base ty, e, k⟩
theorem c__law_alike (T : Txt w K mg a_NoText a_HouseError) : ∀ n, Cl P w K mg base CX0 n "_law_alike" (spAlike n)
  | 0 => (T.f__law_alike.cl0).imp fun vs H Q E h => by
    obtain ⟨x, y, _, h, _⟩ := h
    cases h
  | n + 1 => by
    have c__law_alike : Cl P w K mg base CX0 n "_law_alike" (spAlike n) := c__law_alike T n
    refine T.f__law_alike.cl sc__law_alike (fun vs H Q E h => by obtain ⟨_, _, rfl, _⟩ := h; rfl) (fun f cdv A outer s H0 vs Q E hr h => ?_)
    obtain ⟨x, y, rfl, hal, k⟩ := h
    refine ⟨_, (pss_cons (ps_if (pt_truK K (pe_callB (call_isiU K) rfl T.n_isinstance (by decide +kernel) (pa_cons (pv 1) (pa_cons (pe_tup (pa_cons (pe_bltn (v := .ty "list") rfl T.n_list (by decide +kernel) rfl) (pa_cons (pe_bltn (v := .ty "tuple") rfl T.n_tuple (by decide +kernel) rfl) pa_nil))) pa_nil))) (fun _ => rfl))
 (pss_cons (ps_if (PW.pt (pw_or (pt_not (pt_truK K (pe_callB (call_isiU K) rfl T.n_isinstance (by decide +kernel) (pa_cons (pv 0) (pa_cons (pe_tup (pa_cons (pe_bltn (v := .ty "list") rfl T.n_list (by decide +kernel) rfl) (pa_cons (pe_bltn (v := .ty "tuple") rfl T.n_tuple (by decide +kernel) rfl) pa_nil))) pa_nil))) (fun _ => rfl))) (pw_or1 (pt_cmpR (op_neU K hr.units) (pe_callB (call_isiU K) rfl T.n_isinstance (by decide +kernel) (pa_cons (pv 0) (pa_cons (pe_bltn (v := .ty "list") rfl T.n_list (by decide +kernel) rfl) pa_nil))) (pe_callB (call_isiU K) rfl T.n_isinstance (by decide +kernel) (pa_cons (pv 1) (pa_cons (pe_bltn (v := .ty "list") rfl T.n_list (by decide +kernel) rfl) pa_nil))) (nomark _)))))
 (pss_one (ps_ret pe_bl))
 pss_nil)
 (pss_cons (ps_if (pt_cmpR (op_neU K hr.units) (pe_callB (call_lenU K) rfl T.n_len (by decide +kernel) (pa_cons (pv 0) pa_nil)) (pe_callB (call_lenU K) rfl T.n_len (by decide +kernel) (pa_cons (pv 1) pa_nil)) (nomark _))
 (pss_one (ps_ret pe_bl))
 pss_nil)
 (pss_one (ps_ret (pe_callB (cr_all rfl) rfl T.n_all (by decide +kernel) (pa_cons (pe_lc (own := [("k", 2)]) (g := gName 2) (tt := tYes) rfl sc__law_alike.nd (pi_range1 rfl T.n_range (pa_cons (pe_callB (call_lenU K) rfl T.n_len (by decide +kernel) (pa_cons (pv 1) pa_nil)) pa_nil)) (blkOk_by (N := ["found", "due", "k"]) (sc := defScope s__law_alike) (by decide +kernel)) (fun _ _ _ _ _ => (pg_name (i := 2) sc__law_alike.nd rfl (Or.inl rfl))) (fun _ _ _ _ _ => pts_nil) (fun _ _ _ _ _ => (pe_cl c__law_alike hr (Nat.le_refl _) pz0 rfl (pa_cons (pe_ix (ix_U K (hu_of hr)) (pv 0) (pv 2) (fun _ _ => rfl)) (pa_cons (pe_ix (ix_U K (hu_of hr)) (pv 1) (pv 2) (fun _ _ => rfl)) pa_nil))))) pa_nil))))))
 pss_nil)
 (pss_cons (ps_if (PW.pt (pw_or (pt_cmpR (op_neU K hr.units) (pe_callB (call_isiU K) rfl T.n_isinstance (by decide +kernel) (pa_cons (pv 0) (pa_cons (pe_bltn (v := .ty "bool") rfl T.n_bool (by decide +kernel) rfl) pa_nil))) (pe_callB (call_isiU K) rfl T.n_isinstance (by decide +kernel) (pa_cons (pv 1) (pa_cons (pe_bltn (v := .ty "bool") rfl T.n_bool (by decide +kernel) rfl) pa_nil))) (nomark _)) (pw_or1 (pt_cmpR (op_neU K hr.units) (pe_callB (call_isiU K) rfl T.n_isinstance (by decide +kernel) (pa_cons (pv 0) (pa_cons (pe_bltn (v := .ty "int") rfl T.n_int (by decide +kernel) rfl) pa_nil))) (pe_callB (call_isiU K) rfl T.n_isinstance (by decide +kernel) (pa_cons (pv 1) (pa_cons (pe_bltn (v := .ty "int") rfl T.n_int (by decide +kernel) rfl) pa_nil))) (nomark _)))))
 (pss_one (ps_ret pe_bl))
 pss_nil)
 (pss_one (ps_ret (pe_andK K (pe_cmpR (op_eqU K hr.units) (pe_callB (call_isiU K) rfl T.n_isinstance (by decide +kernel) (pa_cons (pv 0) (pa_cons (pe_bltn (v := .ty "str") rfl T.n_str (by decide +kernel) rfl) pa_nil))) (pe_callB (call_isiU K) rfl T.n_isinstance (by decide +kernel) (pa_cons (pv 1) (pa_cons (pe_bltn (v := .ty "str") rfl T.n_str (by decide +kernel) rfl) pa_nil))) (nomark _)) (pe_one (pe_cmpR (op_eqU K hr.units) (pv 0) (pv 1) (nomark _)))))))), ?_⟩
    have S : Sat H0 [Fr H0] := Fr.start
    walk_at "i"
    walk_at "xs"
    refine w_nT S fun p H _ S => ?_
    cases hal with
    | sc sx =>
      obtain ⟨t, bb, bi, bs, ty, e1, e2, e3, e4⟩ := scal_kinds (K := K) sx
      refine w_isiT (by walk_at "h") (.cons (.ty _) (.cons (.ty _) .nil)) (ty _) e1 ?_
      walk_at "xs"
      refine w_isi (ty _) e2 ?_
      walk_at "xs"
      refine w_isi (ty _) e2 ?_
      walk_at "xs"
      refine w_noN rfl ?_
      walk_at "xs"
      refine w_isi (ty _) e3 ?_
      walk_at "xs"
      refine w_isi (ty _) e3 ?_
      walk_at "xs"
      refine w_noN rfl ?_
      walk_at "xs"
      refine w_isi (ty _) e4 ?_
      walk_at "xs"
      refine w_isi (ty _) e4 ?_
      walk_at "xs"
      refine w_yes rfl ?_
      walk_at "xs"
      refine w_eqSc sx ?_
      exact k H (Fr.out S.drop)
    | @lst n' a b xs ys ha hb hl hm hx =>
      have ha1 : H a = some (.lst xs) := (Fr.out S.drop) _ _ ha
      have hb1 : H b = some (.lst ys) := (Fr.out S.drop) _ _ hb
      refine w_isiT (by walk_at "h") (.cons (.ty _) (.cons (.ty _) .nil)) (.lst hb1) (r := true) rfl ?_
      walk_at "xs"
      refine w_nT S fun p2 H _ S => ?_
      have ha2 : H a = some (.lst xs) := (Fr.out S.drop.drop) _ _ ha
      have hb2 : H b = some (.lst ys) := (Fr.out S.drop.drop) _ _ hb
      refine w_isiT (by walk_at "h") (.cons (.ty _) (.cons (.ty _) .nil)) (.lst ha2) (r := true) rfl ?_
      walk_at "xs"
      refine w_isi (.lst ha2) (r := true) rfl ?_
      walk_at "xs"
      refine w_isi (.lst hb2) (r := true) rfl ?_
      walk_at "xs"
      refine w_noN rfl ?_
      walk_at "xs"
      refine w_noN (by omega) ?_
      walk_at "xs"
      refine w_r1V (by omega) (by omega) ?_
      refine w_lcK walk_range (by omega) (fun i acc => acc = (List.replicate i true).map V.bl) (fun _ _ => [Fr H0]) rfl (S.to (by walk_at "s")) (fun _ _ _ _ _ _ => trivial) ?_ ?_
      · rintro i acc D x H3 H4 hi hz hlen rfl S ⟨rfl, rfl⟩
        have ha3 : H4 a = some (.lst xs) := (Fr.out S.drop) _ _ ha
        have hb3 : H4 b = some (.lst ys) := (Fr.out S.drop) _ _ hb
        have hi2 : i < ys.length := by omega
        have t0 : (0 + ((i : Nat) : Int)).toNat = i := by omega
        have ex : xs[(0 + ((i : Nat) : Int)).toNat]? = some xs[i] := by rw [t0]; exact List.getElem?_eq_getElem (by omega)
        have ey : ys[(0 + ((i : Nat) : Int)).toNat]? = some ys[i] := by rw [t0]; exact List.getElem?_eq_getElem hi2
        walk_at "xs"
        refine ⟨rfl, ?_⟩
        walk_at "xs"
        refine ⟨_, _, rfl, (hx i _ _ (List.getElem?_eq_getElem (by omega)) (List.getElem?_eq_getElem hi2)).ext (Fr.out S.drop), fun H5 e5 => ?_⟩
        refine w_el hlen hz ?_ (S.ext e5)
        rw [List.replicate_succ', List.map_append]
        rfl
      · rintro D acc H6 hlen rfl S
        walk_at "xs"
        refine ⟨D, _, rfl, .of (by walk_at "h"), ?_⟩
        have e : (List.replicate ((ys.length : Nat) : Int).toNat true).all id = true := by simp
        rw [e]
        exact k H6 (Fr.out S.drop)
    | @tup n' a b xs ys ha hb hl hm hx =>
      have ha1 : H a = some (.tup xs) := (Fr.out S.drop) _ _ ha
      have hb1 : H b = some (.tup ys) := (Fr.out S.drop) _ _ hb
      refine w_isiT (by walk_at "h") (.cons (.ty _) (.cons (.ty _) .nil)) (.tup hb1) (r := true) rfl ?_
      walk_at "xs"
      refine w_nT S fun p2 H _ S => ?_
      have ha2 : H a = some (.tup xs) := (Fr.out S.drop.drop) _ _ ha
      have hb2 : H b = some (.tup ys) := (Fr.out S.drop.drop) _ _ hb
      refine w_isiT (by walk_at "h") (.cons (.ty _) (.cons (.ty _) .nil)) (.tup ha2) (r := true) rfl ?_
      walk_at "xs"
      refine w_isi (.tup ha2) (r := false) rfl ?_
      walk_at "xs"
      refine w_isi (.tup hb2) (r := false) rfl ?_
      walk_at "xs"
      refine w_noN rfl ?_
      walk_at "xs"
      refine w_noN (by omega) ?_
      walk_at "xs"
      refine w_r1V (by omega) (by omega) ?_
      refine w_lcK walk_range (by omega) (fun i acc => acc = (List.replicate i true).map V.bl) (fun _ _ => [Fr H0]) rfl (S.to (by walk_at "s")) (fun _ _ _ _ _ _ => trivial) ?_ ?_
      · rintro i acc D x H3 H4 hi hz hlen rfl S ⟨rfl, rfl⟩
        have ha3 : H4 a = some (.tup xs) := (Fr.out S.drop) _ _ ha
        have hb3 : H4 b = some (.tup ys) := (Fr.out S.drop) _ _ hb
        have hi2 : i < ys.length := by omega
        have t0 : (0 + ((i : Nat) : Int)).toNat = i := by omega
        have ex : xs[(0 + ((i : Nat) : Int)).toNat]? = some xs[i] := by rw [t0]; exact List.getElem?_eq_getElem (by omega)
        have ey : ys[(0 + ((i : Nat) : Int)).toNat]? = some ys[i] := by rw [t0]; exact List.getElem?_eq_getElem hi2
        walk_at "xs"
        refine ⟨rfl, ?_⟩
        walk_at "xs"
        refine ⟨_, _, rfl, (hx i _ _ (List.getElem?_eq_getElem (by omega)) (List.getElem?_eq_getElem hi2)).ext (Fr.out S.drop), fun H5 e5 => ?_⟩
        refine w_el hlen hz ?_ (S.ext e5)
        rw [List.replicate_succ', List.map_append]
        rfl
      · rintro D acc H6 hlen rfl S
        walk_at "xs"
        refine ⟨D, _, rfl, .of (by walk_at "h"), ?_⟩
        have e : (List.replicate ((ys.length : Nat) : Int).toNat true).all id = true := by simp
        rw [e]
        exact k H6 (Fr.out S.drop)
end
end Law
namespace Law
open PySem PySem.Spec PyProof.Rows L2 L2H Q
theorem w_clr {H : Hp} {Q : VK} {As R : List Res} {a : Addr} {xs : List V} (S : Sat H As) (pk : Pick (pts a (.lst xs)) As R) (k : ∀ H', Sat H' (pts a (.lst []) :: R) → Q .non H') : rClear (.ref a) [] H Q := ⟨a, xs, rfl, rfl, (S.pick pk).read, k _ ((S.pick pk).upd _)⟩
theorem w_bm0V {K : PySem.W.Frag} {T : String} {r : V → List V → Hp → VK → Prop} {to : TE} {σ : L2.St} {H : Hp} {Q : VK} (k : to σ H fun x H1 => tyV K T x H1 ∧ r x [] H1 Q) : tBM0 K T r to σ H Q := k
theorem rw_refs {L : LK} : ∀ {rs : List (Str × List Dt)} {us : List V}, DsG L (rs.map rwD) us → ∃ as : List Addr, us = as.map V.ref
  | [], us, h => by cases h; exact ⟨[], rfl⟩
  | r :: rs, us, h => by
    cases h with
    | cons x t =>
      obtain ⟨as, rfl⟩ := rw_refs t
      cases x with
      | tup _ _ => exact ⟨_ :: as, rfl⟩
theorem okd_row {r : Str × List Dt} (h : RwOk r 100) : okd 1 (rwD r) := by
  refine QBox.out ?_
  simp (disch :=
  refine qkeep ?_
  with_unfolding_all
  refine ⟨by rw [List.length_cons]; have := h.n; omega, fun d hd => ?_⟩
  rcases List.mem_cons.mp hd with rfl | hd
  · exact h.w.sg
  · rcases h.ps d hd with ⟨i, rfl, _⟩ | ⟨x, rfl, hx⟩
    · trivial
    · exact hx.sg
  ) only [↓qboxT]

theorem al_rows {H : Hp} {a b : Addr} {us vs : List V} {rs : List (Str × List Dt)} (ok : ∀ r ∈ rs, RwOk r 100) (hl : rs.length ≤ 1000) (h1 : H a = some (.lst us)) (g1 : DsG (LH H) (rs.map rwD) us) (h2 : H b = some (.lst vs)) (g2 : DsG (LH H) (rs.map rwD) vs) : Al H 4 (.ref a) (.ref b) :=
  (DG.al (n := 2) (d := .lst (rs.map rwD)) ⟨by rw [List.length_map]; omega, fun d hd => by
    obtain ⟨r, hr, rfl⟩ := List.mem_map.mp hd
    exact okd_row (ok r hr)⟩ (.lst h1 g1) (.lst h2 g2)).mono (by decide)
theorem wr_nil : wr [] = ("" : Str) := by decide +kernel
abbrev ends : List (Str × List Dt) := [("end", []), ("end", [])]
theorem wr_ends : ("end\nend" : Str) = wr ends := by decide +kernel
theorem end_g : GRow ("end", []) := ⟨("end", ""), by decide +kernel, rfl, by
  rw [show tl ("end", "").2 = ([] : List Nat) by decide +kernel]
  exact .nil⟩
theorem ends_g : ∀ r ∈ ends, GRow r := fun r hr => by
  rcases List.mem_cons.mp hr with rfl | hr
  · exact end_g
  · rw [List.mem_singleton.mp hr]
    exact end_g
/-- rows shown, not all good -/
def RsB (n : Nat) (acc : List V) : Res := ex fun rs : List (Str × List Dt) => All [pure' (rs.length = n ∧ ∀ r ∈ rs, RwOk r 100), DsR (rs.map rwD) acc]
theorem RsB.open {n : Nat} {acc : List V} {R : List Res} {H : Hp} (S : Sat H (RsB n acc :: R)) : ∃ rs : List (Str × List Dt), (rs.length = n ∧ ∀ r ∈ rs, RwOk r 100) ∧ Sat H (DsR (rs.map rwD) acc :: R) := by
  obtain ⟨r, S⟩ := Sat.ex.mp S
  obtain ⟨h, S⟩ := Sat.pure.mp (Sat.all.mp S)
  exact ⟨r, h, S⟩
theorem RsB.close {n : Nat} {acc : List V} {rs : List (Str × List Dt)} {R : List Res} {H : Hp} (h : rs.length = n ∧ ∀ r ∈ rs, RwOk r 100) (S : Sat H (DsR (rs.map rwD) acc :: R)) : Sat H (RsB n acc :: R) := Sat.ex.mpr ⟨rs, Sat.all.mpr (Sat.pure.mpr ⟨h, S⟩)⟩
theorem RsB.snoc {n : Nat} {acc : List V} {r : Str × List Dt} {v : V} {R : List Res} {H : Hp} (h : RwOk r 100) (S : Sat H (DR (rwD r) v :: RsB n acc :: R)) : Sat H (RsB (n + 1) (acc ++ [v]) :: R) := by
  refine QBox.out ?_
  simp (disch :=
  refine qkeep ?_
  with_unfolding_all
  obtain ⟨rs, ⟨e, hr⟩, S⟩ := RsB.open (S.perm (List.Perm.swap _ _ _))
  have S1 := DsR.snoc (S.perm (List.Perm.swap _ _ _))
  rw [show rs.map rwD ++ [rwD r] = (rs ++ [r]).map rwD by rw [List.map_append]; rfl] at S1
  refine RsB.close ⟨by rw [List.length_append, e]; rfl, fun q hq => ?_⟩ S1
  rcases List.mem_append.mp hq with z | z
  · exact hr q z
  · rw [List.mem_singleton.mp z]; exact h
  ) only [↓qboxT]

/-- law(script) -/
def spLaw (K : PySem.W.Frag) : Sp := fun vs H Q _ => ∃ (a : Addr) (ns : List Int) (R : List Res), vs = [.ref a] ∧ ns.length ≤ 63 ∧ Sat H (scr K a (ns.map V.int) :: R) ∧ ∀ H', Q (.bl true) H'
section
variable {P : Program} {w : World} {K : PySem.W.Frag} {mg : Str → Option Value} {base : Heap} {a_NoText a_HouseError : Addr}
theorem ok_law {f : Addr} {fd : FuncData} (F : Fun K "law" "law" s_law f fd) (T : Txt w K mg a_NoText a_HouseError) : FnOk P w K mg base CX0 8 f fd ["script"] (spLaw K) := by
  refine QBox.out ?_
  simp (disch :=
  refine qkeep ?_
  with_unfolding_all
  have c__law_bag : Cl P w K mg base CX0 1 "_law_bag" (spBag K) := c__law_bag T
  have c__law_draw : Cl P w K mg base CX0 1 "_law_draw" spDraw := c__law_draw T
  have c__law_words : Cl P w K mg base CX0 2 "_law_words" spWords := c__law_words T
  have c__law_any_script : Cl P w K mg base CX0 5 "_law_any_script" spScript := c__law_any_script T
  have c__law_wild_script : Cl P w K mg base CX0 5 "_law_wild_script" spWild := c__law_wild_script T
  have c_shown : Cl P w K mg base CX0 1 "shown" spShown := c_shown T
  have c__law_written : Cl P w K mg base CX0 1 "_law_written" spShown := c__law_written T
  have c_read : Cl P w K mg base CX0 4 "read" spReadOk := c_read T
  have c__law_alike : Cl P w K mg base CX0 4 "_law_alike" (spAlike 4) := c__law_alike T 4
  have c__law_bent_row : Cl P w K mg base CX0 3 "_law_bent_row" spBentRow := c__law_bent_row T
  refine F.ok sc_law (fun vs H Q E h => by obtain ⟨_, _, _, rfl, _⟩ := h; rfl) (fun cdv A outer s H vs Q E hr h => ?_)
  obtain ⟨a, ns0, R, rfl, hn0, S, k⟩ := h
  refine ⟨_, (pss_cons (ps_set (i := 1) sc_law.nd rfl (Or.inr rfl) (pe_cl c__law_bag hr (by decide) pz0 rfl (pa_cons (pv 0) pa_nil)))
 (pss_cons (ps_expr (pe_bmK K PySem.F.plainAttrs_list PySem.F.slot_list_append PySem.F.type_list_append mt_append (pv 1) (pa_cons (pe_cl c__law_words hr (by decide) pz0 rfl (pa_cons (pv 1) pa_nil)) pa_nil)))
 (pss_cons (ps_set (i := 2) sc_law.nd rfl (Or.inr rfl) (pe_cl c__law_any_script hr (by decide) pz0 rfl (pa_cons (pv 1) pa_nil)))
 (C8.pss_cut (ps_if (pt_cmpR (op_eqU K hr.units) (pe_cl c__law_draw hr (by decide) pz0 rfl (pa_cons (pv 1) (pa_cons pe_int pa_nil))) pe_int (nomark _))
 (pss_one (ps_set (i := 2) sc_law.nd rfl (Or.inr rfl) (pe_cl c__law_wild_script hr (by decide) pz0 rfl (pa_cons (pv 1) pa_nil))))
 pss_nil)
 (pss_cons (ps_set (i := 3) sc_law.nd rfl (Or.inl rfl) (pe_callTy (call_listK K) rfl T.n_list (by decide +kernel) (pa_cons (pv 2) pa_nil)))
 (pss_cons (ps_set (i := 4) sc_law.nd rfl (Or.inl rfl) (pe_cl c_shown hr (by decide) pz0 rfl (pa_cons (pv 3) pa_nil)))
 (pss_cons (ps_if (PW.pt (pw_or (pt_not (pt_truK K (pe_callB (call_isiU K) rfl T.n_isinstance (by decide +kernel) (pa_cons (pv 4) (pa_cons (pe_bltn (v := .ty "str") rfl T.n_str (by decide +kernel) rfl) pa_nil))) (fun _ => rfl))) (pw_or (pt_cmpR (op_neU K hr.units) (pv 4) (pe_cl c__law_written hr (by decide) pz0 rfl (pa_cons (pv 2) pa_nil)) (nomark _)) (pw_or1 (pt_cmpR (show OpR _ (compareOp .NotEq) (rNeRefs K) from op_neRefs hr.units) (pv 3) (pv 2) (nomark _))))))
 (pss_one (ps_ret pe_bl))
 pss_nil)
 (pss_cons (ps_set (i := 5) sc_law.nd rfl (Or.inl rfl) (pe_cl c_read hr (by decide) pz0 rfl (pa_cons (pv 4) pa_nil)))
 (pss_cons (ps_if (pt_not (pt_truK K (pe_cl c__law_alike hr (by decide) pz0 rfl (pa_cons (pv 5) (pa_cons (pv 2) pa_nil))) (fun _ => rfl)))
 (pss_one (ps_ret pe_bl))
 pss_nil)
 (pss_cons (ps_setLc (i := 6) (own := [("row", 7)]) (g := gName 7) (tt := tYes) rfl sc_law.nd rfl rfl (sw_true rfl rfl rfl (by decide +kernel)) (pi_seqK K (pv 2)) (blkOk_by (N := ["script", "bag", "some", "handed", "text", "found", "bent", "row"]) (sc := defScope s_law) (by decide +kernel)) (fun _ _ _ _ _ => (pg_name (i := 7) sc_law.nd rfl (Or.inl rfl))) (fun _ _ _ _ _ => pts_nil) (fun _ _ _ _ _ => (pe_ifExp (pt_cmpR (op_eqU K hr.units) (pe_cl c__law_draw hr (by decide) pz0 rfl (pa_cons (pv 1) (pa_cons pe_int pa_nil))) pe_int (nomark _)) (pe_cl c__law_bent_row hr (by decide) pz0 rfl (pa_cons (pv 1) (pa_cons (pv 7) (pa_cons (pe_callB (call_lenU K) rfl T.n_len (by decide +kernel) (pa_cons (pv 2) pa_nil)) pa_nil)))) (pv 7))))
 (pss_cons (ps_if (PW.pt (pw_or (pt_cmpR (op_neU K hr.units) (pe_cl c_shown hr (by decide) pz0 rfl (pa_cons (pe_callTy (call_listK K) rfl T.n_list (by decide +kernel) (pa_cons (pv 6) pa_nil)) pa_nil)) (pe_cl c__law_written hr (by decide) pz0 rfl (pa_cons (pv 6) pa_nil)) (nomark _)) (pw_or1 (pt_cmpR (op_neU K hr.units) (pe_cl c_shown hr (by decide) pz0 rfl (pa_cons (pe_lst pa_nil) pa_nil)) pe_str (nomark _)))))
 (pss_one (ps_ret pe_bl))
 pss_nil)
 (pss_cons (ps_expr (pe_bm0K K PySem.F.plainAttrs_list PySem.F.slot_list_clear PySem.F.type_list_clear mt_clear (pv 5)))
 (pss_one (ps_ret (pe_andK K (pe_cl c__law_alike hr (by decide) pz0 rfl (pa_cons (pe_cl c_read hr (by decide) pz0 rfl (pa_cons (pv 4) pa_nil)) (pa_cons (pv 2) pa_nil))) (pe_one (pe_cl c__law_alike hr (by decide) pz0 rfl (pa_cons (pe_cl c_read hr (by decide) pz0 rfl (pa_cons pe_str pa_nil)) (pa_cons (pe_lst (pa_cons (pe_tup (pa_cons pe_str pa_nil)) (pa_cons (pe_tup (pa_cons pe_str pa_nil)) pa_nil))) pa_nil))))))))))))))))))), ?_⟩
  walk_at "i"
  walk_at "xs"
  refine ⟨a, ns0, R, rfl, hn0, S, fun b H S => ?_⟩
  walk_at "xs"
  have hbl : ∃ xs, H b = some (.lst xs) := by
    obtain ⟨_, _, _, _, _, _, _, S⟩ := BagA.open S
    exact ⟨_, S.read⟩
  obtain ⟨xsb, hxb⟩ := hbl
  walk_at "xs"
  refine ⟨b, R, rfl, S, fun wp ns H hn8 hns S => ?_⟩
  obtain ⟨l0, cs0, a0, le0, st0, cn0, bok, S⟩ := BagA.open (S.pick (A := BagA b []) (by walk_at "pick"))
  walk_at "xs"
  refine p_app S (by walk_at "pick") (by simp) fun H S => ?_
  replace S : Sat H (pts b (.lst (Bag5 l0 a0 le0 st0 cn0 [.ref wp])) :: _) := S
  have S1 := Sat.share (S.pick (A := pts wp (.lst (ns.map V.str))) (by walk_at "pick"))
  have S2 := BagA.close bok (S1.to (Bs := pts b (.lst (Bag5 l0 a0 le0 st0 cn0 [.ref wp])) :: pts l0 (.lst (cs0.map V.int)) :: sh wp (.lst (ns.map V.str)) :: R) (by walk_at "s"))
  clear S S1
  have S := S2
  clear S2
  have hw : WsOk ns := ⟨hn8, hns⟩
  walk_at "xs"
  refine ⟨b, wp, ns, R, rfl, hw, S.to (by walk_at "s"), fun rs0 lp0 us0 H hg0 h10 h80 S => ?_⟩
  walk_at "xs"
  refine w_cut (fun σ H => ∃ rs : List (Str × List Dt), ∃ lp us, σ = [some (.ref a), some (.ref b), some (.ref lp), none, none, none, none, none] ∧ (∀ r ∈ rs, GRow r) ∧ 1 ≤ rs.length ∧ rs.length ≤ 80 ∧ Sat H (pts lp (.lst us) :: DsR (rs.map rwD) us :: BagA b [.ref wp] :: sh wp (.lst (ns.map V.str)) :: R)) ?_ ?_
  · walk_at "xs"
    refine w_draw (S.pick (A := BagA b [.ref wp]) (by walk_at "pick")) (by decide) (by decide) fun d0 H d1 d2 S => ?_
    walk_at "xs"
    refine w_ite (fun h => ?_) (fun h => ?_)
    · walk_at "xs"
      refine ⟨b, wp, ns, _, rfl, hw, S.to (Bs := BagA b [.ref wp] :: sh wp (.lst (ns.map V.str)) :: R) (by walk_at "s"), fun rs1 lp1 us1 H hg1 h11 h81 S => ?_⟩
      walk_at "xs"
      exact ⟨rs1, lp1, us1, rfl, hg1, h11, h81, S.to (by walk_at "s")⟩
    · walk_at "xs"
      exact ⟨rs0, lp0, us0, rfl, hg0, h10, h80, S.to (by walk_at "s")⟩
  clear S hg0 h10 h80
  rintro σ H ⟨rs, lp, us, rfl, hg, hl1, hl80, S⟩
  have hok : ∀ r ∈ rs, RwOk r 100 := fun r hr => (hg r hr).ok.mono (by decide)
  have hl1000 : rs.length ≤ 1000 := by omega
  have hul : us.length = rs.length := by rw [← DsR.len (S.pick (A := DsR (rs.map rwD) us) (by walk_at "pick")), List.length_map]
  walk_at "xs"
  refine w_listL S (by walk_at "h") fun lh H _ S => ?_
  walk_at "xs"
  refine ⟨lh, rs, us, _, rfl, hok, hl1000, S.to (Bs := pts lh (.lst us) :: DsR (rs.map rwD) us :: pts lp (.lst us) :: BagA b [.ref wp] :: sh wp (.lst (ns.map V.str)) :: R) (by walk_at "s"), fun H S => ?_⟩
  walk_at "xs"
  refine w_isi (r := true) (.str _) rfl ?_
  walk_at "xs"
  refine ⟨lp, rs, us, _, rfl, hok, hl1000, S.to (Bs := pts lp (.lst us) :: DsR (rs.map rwD) us :: pts lh (.lst us) :: BagA b [.ref wp] :: sh wp (.lst (ns.map V.str)) :: R) (by walk_at "s"), fun H S => ?_⟩
  walk_at "xs"
  refine w_noB (by simp) ?_
  walk_at "xs"
  obtain ⟨as, hus⟩ := rw_refs (DsR.h (S.pick (A := DsR (rs.map rwD) us) (by walk_at "pick")))
  have hus2 : H lh = some (.lst (as.map V.ref)) := by rw [← hus]; walk_at "h"
  have hus3 : H lp = some (.lst (as.map V.ref)) := by rw [← hus]; walk_at "h"
  refine w_neRefs hus2 hus3 ?_
  walk_at "xs"
  refine ⟨rs, _, rfl, hg, hl1, by omega, S, fun fp us2 H S => ?_⟩
  walk_at "xs"
  have g1 := DsR.h (S.pick (A := DsR (rs.map rwD) us2) (by walk_at "pick"))
  have g2 := DsR.h (S.pick (A := DsR (rs.map rwD) us) (by walk_at "pick"))
  refine ⟨_, _, rfl, al_rows hok hl1000 (by walk_at "h") g1 (by walk_at "h") g2, fun H ex => ?_⟩
  replace S := S.ext ex
  clear ex g1 g2 hus2 hus3
  walk_at "xs"
  refine w_sqL ?_
  walk_at "xs"
  refine w_slV (by walk_at "h") ?_
  replace S : Sat H (BagA b [.ref wp] :: sh wp (.lst (ns.map V.str)) :: pts lp (.lst us) :: DsR (rs.map rwD) us :: pts fp (.lst us2) :: R) := S.to (by walk_at "s")
  refine w_lcK (walk_list (K := K) (a := lp) (xs := us)) (by omega) (fun _ _ => True) (fun i acc => RsB i acc :: BagA b [.ref wp] :: sh wp (.lst (ns.map V.str)) :: pts lp (.lst us) :: DsR (rs.map rwD) us :: pts fp (.lst us2) :: R) trivial (RsB.close (rs := []) ⟨rfl, fun _ h => absurd h List.not_mem_nil⟩ (DsR.nil S)) (fun i acc D H _ S => .of (by walk_at "h")) ?_ ?_
  · clear S
    rintro i acc D y H H' hi hz hlen - S ⟨rfl, hy⟩
    obtain ⟨r, hr⟩ : ∃ r, rs[i]? = some r := ⟨_, List.getElem?_eq_getElem (by omega)⟩
    have hrok := (hg r (List.mem_of_getElem? hr)).ok
    obtain ⟨v', hv', S1⟩ := DsR.at (S.pick (A := DsR (rs.map rwD) us) (by walk_at "pick")) (map_at (f := rwD) hr)
    rw [hy] at hv'
    cases hv'
    obtain ⟨rp, rfl, S2⟩ := DR.openRw hrok S1
    clear S1
    have S : Sat H' (sh rp (.tup (.str r.1 :: r.2.map unV)) :: BagA b [.ref wp] :: sh wp (.lst (ns.map V.str)) :: RsB i acc :: pts D (.lst acc) :: pts lp (.lst us) :: DsR (rs.map rwD) us :: pts fp (.lst us2) :: R) := S2.to (by walk_at "s")
    clear S2
    walk_at "xs"
    refine ⟨rfl, ?_⟩
    walk_at "xs"
    refine w_draw (S.pick (A := BagA b [.ref wp]) (by walk_at "pick")) (by decide) (by decide) fun d0 H d1 d2 S => ?_
    walk_at "xs"
    refine w_ite (fun h => ?_) (fun h => ?_)
    · walk_at "xs"
      rw [hul]
      refine ⟨b, wp, ns, rp, r, rs.length, 4, _, rfl, hw, hrok, by decide, by omega, S.to (Bs := BagA b [.ref wp] :: sh wp (.lst (ns.map V.str)) :: sh rp (.tup (.str r.1 :: r.2.map unV)) :: RsB i acc :: pts D (.lst acc) :: pts lp (.lst us) :: DsR (rs.map rwD) us :: pts fp (.lst us2) :: R) (by walk_at "s"), fun r' p H hr' S => ?_⟩
      refine w_el hlen hz trivial ?_
      exact (RsB.snoc (hr'.mono (by decide)) (S.to (Bs := DR (rwD r') (.ref p) :: RsB i acc :: pts D (.lst acc) :: BagA b [.ref wp] :: sh wp (.lst (ns.map V.str)) :: pts lp (.lst us) :: DsR (rs.map rwD) us :: pts fp (.lst us2) :: R) (by walk_at "s"))).perm (List.Perm.swap _ _ _)
    · walk_at "xs"
      refine w_el hlen hz trivial ?_
      have S1 := DR.ofRw hrok (S.pick (A := sh rp (.tup (.str r.1 :: r.2.map unV))) (by walk_at "pick"))
      exact (RsB.snoc (hrok.mono (by decide)) (S1.to (Bs := DR (rwD r) (.ref rp) :: RsB i acc :: pts D (.lst acc) :: BagA b [.ref wp] :: sh wp (.lst (ns.map V.str)) :: pts lp (.lst us) :: DsR (rs.map rwD) us :: pts fp (.lst us2) :: R) (by walk_at "s"))).perm (List.Perm.swap _ _ _)
  clear S
  rintro D acc H hlen - S
  obtain ⟨rs2, ⟨hl2, hok2⟩, S⟩ := RsB.open (S.pick (A := RsB us.length acc) (by walk_at "pick"))
  have hl2000 : rs2.length ≤ 1000 := by omega
  walk_at "xs"
  refine w_listL S (by walk_at "h") fun lb H _ S => ?_
  walk_at "xs"
  refine ⟨lb, rs2, acc, _, rfl, hok2, hl2000, S.to (Bs := pts lb (.lst acc) :: DsR (rs2.map rwD) acc :: pts D (.lst acc) :: BagA b [.ref wp] :: sh wp (.lst (ns.map V.str)) :: pts lp (.lst us) :: DsR (rs.map rwD) us :: pts fp (.lst us2) :: R) (by walk_at "s"), fun H S => ?_⟩
  walk_at "xs"
  refine ⟨D, rs2, acc, _, rfl, hok2, hl2000, S.to (Bs := pts D (.lst acc) :: DsR (rs2.map rwD) acc :: pts lb (.lst acc) :: BagA b [.ref wp] :: sh wp (.lst (ns.map V.str)) :: pts lp (.lst us) :: DsR (rs.map rwD) us :: pts fp (.lst us2) :: R) (by walk_at "s"), fun H S => ?_⟩
  walk_at "xs"
  refine w_noB (by simp) ?_
  walk_at "xs"
  refine w_nL S fun l9 H _ S => ?_
  have S1 : Sat H (DsR (([] : List (Str × List Dt)).map rwD) [] :: _) := DsR.nil S
  walk_at "xs"
  refine ⟨l9, [], [], _, rfl, fun _ h => absurd h List.not_mem_nil, by decide, S1.to (Bs := pts l9 (.lst []) :: DsR (([] : List (Str × List Dt)).map rwD) [] :: BagA b [.ref wp] :: sh wp (.lst (ns.map V.str)) :: pts lp (.lst us) :: DsR (rs.map rwD) us :: pts fp (.lst us2) :: R) (by walk_at "s"), fun H S => ?_⟩
  clear S1
  rw [wr_nil]
  walk_at "xs"
  refine w_noB (by simp) ?_
  walk_at "xs"
  refine w_bm0V ?_
  walk_at "xs"
  refine ⟨.inl ⟨rfl, _, .of (by walk_at "h")⟩, ?_⟩
  refine w_clr (xs := us2) S (by walk_at "pick") fun H S => ?_
  replace S : Sat H (pts lp (.lst us) :: DsR (rs.map rwD) us :: R) := S.to (by walk_at "s")
  walk_at "xs"
  refine ⟨rs, _, rfl, hg, hl1, by omega, S, fun fp3 us3 H S => ?_⟩
  walk_at "xs"
  have g1 := DsR.h (S.pick (A := DsR (rs.map rwD) us3) (by walk_at "pick"))
  have g2 := DsR.h (S.pick (A := DsR (rs.map rwD) us) (by walk_at "pick"))
  refine ⟨_, _, rfl, al_rows hok hl1000 (by walk_at "h") g1 (by walk_at "h") g2, fun H ex => ?_⟩
  replace S := S.ext ex
  clear ex g1 g2
  walk_at "xs"
  refine ⟨ends, R, by rw [wr_ends], ends_g, by decide, by decide, S.to (by walk_at "s"), fun fp4 us4 H S => ?_⟩
  walk_at "xs"
  refine w_nT S fun e1 H _ S => ?_
  walk_at "xs"
  refine w_nT S fun e2 H _ S => ?_
  walk_at "xs"
  refine w_nL S fun l5 H _ S => ?_
  have g1 := DsR.h (S.pick (A := DsR (ends.map rwD) us4) (by walk_at "pick"))
  have d1 : DG (LH H) (rwD ("end", [])) (.ref e1) := .tup (show H e1 = some (.tup [.str "end"]) by walk_at "h") (.cons (.str _) .nil)
  have d2 : DG (LH H) (rwD ("end", [])) (.ref e2) := .tup (show H e2 = some (.tup [.str "end"]) by walk_at "h") (.cons (.str _) .nil)
  walk_at "xs"
  refine ⟨_, _, rfl, al_rows (fun r hr => (ends_g r hr).ok.mono (by decide)) (by decide) (by walk_at "h") g1 (by walk_at "h") (.cons d1 (.cons d2 .nil)), fun H ex => ?_⟩
  walk_at "xs"
  exact k H
  ) only [↓qboxT]

end
end Law
namespace Law
open PySem PySem.Spec PyProof.Rows L2 L2H Q
theorem len_of1 {α : Type} {P : List α → Prop} (h : ∀ x0, P [x0]) : ∀ us : List α, us.length = 1 → P us := by
  intro us e
  rcases us with _ | ⟨x0, us⟩
  · cases e
  rcases us with _ | ⟨y, us⟩
  · exact h x0
  · simp at e
theorem len_of2 {α : Type} {P : List α → Prop} (h : ∀ x0 x1, P [x0, x1]) : ∀ us : List α, us.length = 2 → P us := by
  intro us e
  rcases us with _ | ⟨x0, us⟩
  · cases e
  rcases us with _ | ⟨x1, us⟩
  · cases e
  rcases us with _ | ⟨y, us⟩
  · exact h x0 x1
  · simp at e
theorem len_of3 {α : Type} {P : List α → Prop} (h : ∀ x0 x1 x2, P [x0, x1, x2]) : ∀ us : List α, us.length = 3 → P us := by
  refine QBox.out ?_
  simp (disch :=
  refine qkeep ?_
  with_unfolding_all
  intro us e
  rcases us with _ | ⟨x0, us⟩
  · cases e
  rcases us with _ | ⟨x1, us⟩
  · cases e
  rcases us with _ | ⟨x2, us⟩
  · cases e
  rcases us with _ | ⟨y, us⟩
  · exact h x0 x1 x2
  · simp at e
  ) only [↓qboxT]

theorem all_mk {l : PySem.W.OpenLaw} {w : World} {K : PySem.W.Frag} {h : Heap} {mg : Str → Option Value} {fa a_NoText a_HouseError f0 f1 f2 f3 f4 f5 f6 f7 f8 f9 f10 f11 f12 f13 f14 f15 f16 f17 f18 f19 d_PARTS : Addr} {ob_PARTS : Obj} (X : K.In h) (G : h.Ns mainGlobals mg) (hfa : mg "law" = some (.ref fa))
    {od0 od1 od2 od3 od4 od5 od6 od7 od8 od9 od10 od11 od12 od13 od14 od15 od16 od17 od18 od19 an0 an1 an2 an3 an4 an5 an6 an7 an8 an9 an10 an11 an12 an13 an14 an15 an16 an17 an18 an19 : Option Addr} {sl0 sl1 sl2 sl3 sl4 sl5 sl6 sl7 sl8 sl9 sl10 sl11 sl12 sl13 sl14 sl15 sl16 sl17 sl18 sl19 : Array (Option Value)} {oc0 oc1 oc2 oc3 oc4 oc5 oc6 oc7 oc8 oc9 oc10 oc11 oc12 oc13 oc14 oc15 oc16 oc17 oc18 oc19 kV0 kV1 kV2 kV3 kV4 kV5 kV6 kV7 kV8 kV9 kV10 kV11 kV12 kV13 kV14 kV15 kV16 kV17 kV18 kV19 dc0 dc1 dc2 dc3 dc4 dc5 dc6 dc7 dc8 dc9 dc10 dc11 dc12 dc13 dc14 dc15 dc16 dc17 dc18 dc19 pm0 pm1 pm2 pm3 pm4 pm5 pm6 pm7 pm8 pm9 pm10 pm11 pm12 pm13 pm14 pm15 pm16 pm17 pm18 pm19 cd0 cd1 cd2 cd3 cd4 cd5 cd6 cd7 cd8 cd9 cd10 cd11 cd12 cd13 cd14 cd15 cd16 cd17 cd18 cd19 ct0 ct1 ct2 ct3 ct4 ct5 ct6 ct7 ct8 ct9 ct10 ct11 ct12 ct13 ct14 ct15 ct16 ct17 ct18 ct19 u_MOST_FIGURES u_MOST_SIGNS u_LETTERS u_FIGURES : Value}
    (zc_NoText : PySem.W.nsIn K mainGlobals "NoText" = some (some (.ref a_NoText)))
    (zc_HouseError : PySem.W.nsIn K mainGlobals "HouseError" = some (some (.ref a_HouseError)))
    (a0 : PySem.W.nsIn K mainGlobals "law" = some (some (.ref f0)))
    (a1 : PySem.W.nsIn K mainGlobals "_law_alike" = some (some (.ref f1)))
    (a2 : PySem.W.nsIn K mainGlobals "_law_any_script" = some (some (.ref f2)))
    (a3 : PySem.W.nsIn K mainGlobals "_law_bag" = some (some (.ref f3)))
    (a4 : PySem.W.nsIn K mainGlobals "_law_bent_row" = some (some (.ref f4)))
    (a5 : PySem.W.nsIn K mainGlobals "_law_draw" = some (some (.ref f5)))
    (a6 : PySem.W.nsIn K mainGlobals "_law_wild_script" = some (some (.ref f6)))
    (a7 : PySem.W.nsIn K mainGlobals "_law_words" = some (some (.ref f7)))
    (a8 : PySem.W.nsIn K mainGlobals "_law_written" = some (some (.ref f8)))
    (a9 : PySem.W.nsIn K mainGlobals "read" = some (some (.ref f9)))
    (a10 : PySem.W.nsIn K mainGlobals "shown" = some (some (.ref f10)))
    (a11 : PySem.W.nsIn K mainGlobals "_law_any_row" = some (some (.ref f11)))
    (a12 : PySem.W.nsIn K mainGlobals "_law_letters" = some (some (.ref f12)))
    (a13 : PySem.W.nsIn K mainGlobals "_law_any_sign" = some (some (.ref f13)))
    (a14 : PySem.W.nsIn K mainGlobals "_law_number" = some (some (.ref f14)))
    (a15 : PySem.W.nsIn K mainGlobals "read_row" = some (some (.ref f15)))
    (a16 : PySem.W.nsIn K mainGlobals "_law_part" = some (some (.ref f16)))
    (a17 : PySem.W.nsIn K mainGlobals "read_part" = some (some (.ref f17)))
    (a18 : PySem.W.nsIn K mainGlobals "is_name" = some (some (.ref f18)))
    (a19 : PySem.W.nsIn K mainGlobals "read_whole" = some (some (.ref f19)))
    (zk_MOST_FIGURES : PySem.W.nsIn K mainGlobals "MOST_FIGURES" = some (some u_MOST_FIGURES))
    (zk_MOST_SIGNS : PySem.W.nsIn K mainGlobals "MOST_SIGNS" = some (some u_MOST_SIGNS))
    (zk_LETTERS : PySem.W.nsIn K mainGlobals "LETTERS" = some (some u_LETTERS))
    (zk_FIGURES : PySem.W.nsIn K mainGlobals "FIGURES" = some (some u_FIGURES))
    (l0 : K.lookup f0 = some ⟨oc0, od0, .func (PySem.W.fnOf "law" "law" (defArgs s_law) (defBody s_law) (defScope s_law) .none kV0 dc0 pm0 an0 cd0 ct0), sl0⟩)
    (l1 : K.lookup f1 = some ⟨oc1, od1, .func (PySem.W.fnOf "_law_alike" "_law_alike" (defArgs s__law_alike) (defBody s__law_alike) (defScope s__law_alike) .none kV1 dc1 pm1 an1 cd1 ct1), sl1⟩)
    (l2 : K.lookup f2 = some ⟨oc2, od2, .func (PySem.W.fnOf "_law_any_script" "_law_any_script" (defArgs s__law_any_script) (defBody s__law_any_script) (defScope s__law_any_script) .none kV2 dc2 pm2 an2 cd2 ct2), sl2⟩)
    (l3 : K.lookup f3 = some ⟨oc3, od3, .func (PySem.W.fnOf "_law_bag" "_law_bag" (defArgs s__law_bag) (defBody s__law_bag) (defScope s__law_bag) .none kV3 dc3 pm3 an3 cd3 ct3), sl3⟩)
    (l4 : K.lookup f4 = some ⟨oc4, od4, .func (PySem.W.fnOf "_law_bent_row" "_law_bent_row" (defArgs s__law_bent_row) (defBody s__law_bent_row) (defScope s__law_bent_row) .none kV4 dc4 pm4 an4 cd4 ct4), sl4⟩)
    (l5 : K.lookup f5 = some ⟨oc5, od5, .func (PySem.W.fnOf "_law_draw" "_law_draw" (defArgs s__law_draw) (defBody s__law_draw) (defScope s__law_draw) .none kV5 dc5 pm5 an5 cd5 ct5), sl5⟩)
    (l6 : K.lookup f6 = some ⟨oc6, od6, .func (PySem.W.fnOf "_law_wild_script" "_law_wild_script" (defArgs s__law_wild_script) (defBody s__law_wild_script) (defScope s__law_wild_script) .none kV6 dc6 pm6 an6 cd6 ct6), sl6⟩)
    (l7 : K.lookup f7 = some ⟨oc7, od7, .func (PySem.W.fnOf "_law_words" "_law_words" (defArgs s__law_words) (defBody s__law_words) (defScope s__law_words) .none kV7 dc7 pm7 an7 cd7 ct7), sl7⟩)
    (l8 : K.lookup f8 = some ⟨oc8, od8, .func (PySem.W.fnOf "_law_written" "_law_written" (defArgs s__law_written) (defBody s__law_written) (defScope s__law_written) .none kV8 dc8 pm8 an8 cd8 ct8), sl8⟩)
    (l9 : K.lookup f9 = some ⟨oc9, od9, .func (PySem.W.fnOf "read" "read" (defArgs s_read) (defBody s_read) (defScope s_read) .none kV9 dc9 pm9 an9 cd9 ct9), sl9⟩)
    (l10 : K.lookup f10 = some ⟨oc10, od10, .func (PySem.W.fnOf "shown" "shown" (defArgs s_shown) (defBody s_shown) (defScope s_shown) .none kV10 dc10 pm10 an10 cd10 ct10), sl10⟩)
    (l11 : K.lookup f11 = some ⟨oc11, od11, .func (PySem.W.fnOf "_law_any_row" "_law_any_row" (defArgs s__law_any_row) (defBody s__law_any_row) (defScope s__law_any_row) .none kV11 dc11 pm11 an11 cd11 ct11), sl11⟩)
    (l12 : K.lookup f12 = some ⟨oc12, od12, .func (PySem.W.fnOf "_law_letters" "_law_letters" (defArgs s__law_letters) (defBody s__law_letters) (defScope s__law_letters) .none kV12 dc12 pm12 an12 cd12 ct12), sl12⟩)
    (l13 : K.lookup f13 = some ⟨oc13, od13, .func (PySem.W.fnOf "_law_any_sign" "_law_any_sign" (defArgs s__law_any_sign) (defBody s__law_any_sign) (defScope s__law_any_sign) .none kV13 dc13 pm13 an13 cd13 ct13), sl13⟩)
    (l14 : K.lookup f14 = some ⟨oc14, od14, .func (PySem.W.fnOf "_law_number" "_law_number" (defArgs s__law_number) (defBody s__law_number) (defScope s__law_number) .none kV14 dc14 pm14 an14 cd14 ct14), sl14⟩)
    (l15 : K.lookup f15 = some ⟨oc15, od15, .func (PySem.W.fnOf "read_row" "read_row" (defArgs s_read_row) (defBody s_read_row) (defScope s_read_row) .none kV15 dc15 pm15 an15 cd15 ct15), sl15⟩)
    (l16 : K.lookup f16 = some ⟨oc16, od16, .func (PySem.W.fnOf "_law_part" "_law_part" (defArgs s__law_part) (defBody s__law_part) (defScope s__law_part) .none kV16 dc16 pm16 an16 cd16 ct16), sl16⟩)
    (l17 : K.lookup f17 = some ⟨oc17, od17, .func (PySem.W.fnOf "read_part" "read_part" (defArgs s_read_part) (defBody s_read_part) (defScope s_read_part) .none kV17 dc17 pm17 an17 cd17 ct17), sl17⟩)
    (l18 : K.lookup f18 = some ⟨oc18, od18, .func (PySem.W.fnOf "is_name" "is_name" (defArgs s_is_name) (defBody s_is_name) (defScope s_is_name) .none kV18 dc18 pm18 an18 cd18 ct18), sl18⟩)
    (l19 : K.lookup f19 = some ⟨oc19, od19, .func (PySem.W.fnOf "read_whole" "read_whole" (defArgs s_read_whole) (defBody s_read_whole) (defScope s_read_whole) .none kV19 dc19 pm19 an19 cd19 ct19), sl19⟩)
    (zn_list : PySem.W.nsIn K mainGlobals "list" = some none)
    (zn_isinstance : PySem.W.nsIn K mainGlobals "isinstance" = some none)
    (zn_str : PySem.W.nsIn K mainGlobals "str" = some none)
    (zn_len : PySem.W.nsIn K mainGlobals "len" = some none)
    (zn_tuple : PySem.W.nsIn K mainGlobals "tuple" = some none)
    (zn_all : PySem.W.nsIn K mainGlobals "all" = some none)
    (zn_bool : PySem.W.nsIn K mainGlobals "bool" = some none)
    (zn_int : PySem.W.nsIn K mainGlobals "int" = some none)
    (zn_range : PySem.W.nsIn K mainGlobals "range" = some none)
    (zn_abs : PySem.W.nsIn K mainGlobals "abs" = some none)
    (zn_zip : PySem.W.nsIn K mainGlobals "zip" = some none)
    (zr_MOST_FIGURES : RelV (.int 60) u_MOST_FIGURES)
    (zr_MOST_SIGNS : RelV (.int 8) u_MOST_SIGNS)
    (zr_LETTERS : RelV (.str "abcdefghijklmnopqrstuvwxyz") u_LETTERS)
    (zr_FIGURES : RelV (.str "0123456789") u_FIGURES)
    (zdb_PARTS : PySem.W.nsIn K mainGlobals "PARTS" = some (some (.ref d_PARTS)))
    (zdo_PARTS : K.lookup d_PARTS = some ob_PARTS)
    (zdz_PARTS : DObj w ob_PARTS [("set", "rn"), ("plus", "rrr"), ("make", "r"), ("under", "rr"), ("put", "rar"), ("ask", "rrat"), ("out", "ra"), ("fix", "ra"), ("shut", "r"), ("gather", "r"), ("turn", "rr"), ("free", "r"), ("sweep", ""), ("tell", "r"), ("zero", "rt"), ("jump", "t"), ("end", "")])
    (zdzz_PARTS : (d_PARTS == sysModules) = false)
    (zx_NoText : PySem.W.excIn K a_NoText veB "ValueError.__new__" = true)
    (zkp_NoText : PySem.W.keepIn K (.ref a_NoText) = true)
    (zb_NoText : PySem.W.subIn K (.ref a_NoText) (.type "BaseException") = some true)
    (zt_NoText : PySem.W.typeIn K (.ref a_NoText) = some (.type "type"))
    (zhg_NoText : PySem.W.findIn K (.ref a_NoText) "__getattribute__" = some (some (.builtin "BaseException.__getattribute__")))
    (zhk_NoText : PySem.W.findIn K (.ref a_NoText) "__getattr__" = some none)
    (zhd_NoText : PySem.W.hasDictIn K a_NoText = true)
    (zha_NoText : PySem.W.findIn K (.ref a_NoText) "__class__" = some (some (.builtin "object.__class__")))
    (zhm_NoText : PySem.W.mroIn K a_NoText (.type "object") = some true)
    (zon : PySem.W.specialIn K (.builtin "object.__class__") "__get__" = some (some (.builtin "getset_descriptor.__get__")))
    (zot : PySem.W.takesIn K (.builtin "object.__class__") = some true)
    (c0 : PySem.W.codeIn K cd0 "law" = true)
    (k0 : PySem.W.keepIn K (.ref f0) = true)
    (c1 : PySem.W.codeIn K cd1 "_law_alike" = true)
    (k1 : PySem.W.keepIn K (.ref f1) = true)
    (c2 : PySem.W.codeIn K cd2 "_law_any_script" = true)
    (k2 : PySem.W.keepIn K (.ref f2) = true)
    (c3 : PySem.W.codeIn K cd3 "_law_bag" = true)
    (k3 : PySem.W.keepIn K (.ref f3) = true)
    (c4 : PySem.W.codeIn K cd4 "_law_bent_row" = true)
    (k4 : PySem.W.keepIn K (.ref f4) = true)
    (c5 : PySem.W.codeIn K cd5 "_law_draw" = true)
    (k5 : PySem.W.keepIn K (.ref f5) = true)
    (c6 : PySem.W.codeIn K cd6 "_law_wild_script" = true)
    (k6 : PySem.W.keepIn K (.ref f6) = true)
    (c7 : PySem.W.codeIn K cd7 "_law_words" = true)
    (k7 : PySem.W.keepIn K (.ref f7) = true)
    (c8 : PySem.W.codeIn K cd8 "_law_written" = true)
    (k8 : PySem.W.keepIn K (.ref f8) = true)
    (c9 : PySem.W.codeIn K cd9 "read" = true)
    (k9 : PySem.W.keepIn K (.ref f9) = true)
    (c10 : PySem.W.codeIn K cd10 "shown" = true)
    (k10 : PySem.W.keepIn K (.ref f10) = true)
    (c11 : PySem.W.codeIn K cd11 "_law_any_row" = true)
    (k11 : PySem.W.keepIn K (.ref f11) = true)
    (c12 : PySem.W.codeIn K cd12 "_law_letters" = true)
    (k12 : PySem.W.keepIn K (.ref f12) = true)
    (c13 : PySem.W.codeIn K cd13 "_law_any_sign" = true)
    (k13 : PySem.W.keepIn K (.ref f13) = true)
    (c14 : PySem.W.codeIn K cd14 "_law_number" = true)
    (k14 : PySem.W.keepIn K (.ref f14) = true)
    (c15 : PySem.W.codeIn K cd15 "read_row" = true)
    (k15 : PySem.W.keepIn K (.ref f15) = true)
    (c16 : PySem.W.codeIn K cd16 "_law_part" = true)
    (k16 : PySem.W.keepIn K (.ref f16) = true)
    (c17 : PySem.W.codeIn K cd17 "read_part" = true)
    (k17 : PySem.W.keepIn K (.ref f17) = true)
    (c18 : PySem.W.codeIn K cd18 "is_name" = true)
    (k18 : PySem.W.keepIn K (.ref f18) = true)
    (c19 : PySem.W.codeIn K cd19 "read_whole" = true)
    (k19 : PySem.W.keepIn K (.ref f19) = true) :
    ∃ fd : FuncData, (∀ (s : Shared) (v : Value), BindsTo s fd ⟨[v], []⟩ [("script", v)]) ∧ ∀ base : Heap, K.In base → base.Ns mainGlobals mg → FnOk l.prog w K mg base CX0 8 fa fd ["script"] (spLaw K) := by
  have e := hfa.symm.trans (PySem.W.mg_of X G a0)
  cases e
  have T : Txt w K mg a_NoText a_HouseError := {
    n_list := PySem.W.mg_none_of X G zn_list,
    n_isinstance := PySem.W.mg_none_of X G zn_isinstance,
    n_str := PySem.W.mg_none_of X G zn_str,
    n_len := PySem.W.mg_none_of X G zn_len,
    n_tuple := PySem.W.mg_none_of X G zn_tuple,
    n_all := PySem.W.mg_none_of X G zn_all,
    n_bool := PySem.W.mg_none_of X G zn_bool,
    n_int := PySem.W.mg_none_of X G zn_int,
    n_range := PySem.W.mg_none_of X G zn_range,
    n_abs := PySem.W.mg_none_of X G zn_abs,
    n_zip := PySem.W.mg_none_of X G zn_zip,
    k_MOST_FIGURES := ⟨_, PySem.W.mg_of X G zk_MOST_FIGURES, zr_MOST_FIGURES⟩,
    k_MOST_SIGNS := ⟨_, PySem.W.mg_of X G zk_MOST_SIGNS, zr_MOST_SIGNS⟩,
    k_LETTERS := ⟨_, PySem.W.mg_of X G zk_LETTERS, zr_LETTERS⟩,
    k_FIGURES := ⟨_, PySem.W.mg_of X G zk_FIGURES, zr_FIGURES⟩,
    b_PARTS := ⟨_, _, PySem.W.mg_of X G zdb_PARTS, zdo_PARTS, zdz_PARTS, zdzz_PARTS⟩,
    c_NoText := PySem.W.mg_of X G zc_NoText,
    c_HouseError := PySem.W.mg_of X G zc_HouseError,
    x_NoText := ⟨zx_NoText, PySem.W.mg_of X G zc_NoText, zkp_NoText, zb_NoText, zt_NoText⟩,
    e_NoText := ⟨zhg_NoText, zhk_NoText, zb_NoText, zhd_NoText, zha_NoText, zon, zot, zhm_NoText⟩,
    f__law_alike := ⟨_, _, fun_mk (st := s__law_alike) l1 c1 k1, PySem.W.mg_of X G a1, (fun_mk (st := s__law_alike) l1 c1 k1).binds (ps := ["found", "due"]) fun _ _ _ _ _ _ => len_of2 fun _ _ => by rfl⟩,
    f__law_any_script := ⟨_, _, fun_mk (st := s__law_any_script) l2 c2 k2, PySem.W.mg_of X G a2, (fun_mk (st := s__law_any_script) l2 c2 k2).binds (ps := ["bag"]) fun _ _ _ _ _ _ => len_of1 fun _ => by rfl⟩,
    f__law_bag := ⟨_, _, fun_mk (st := s__law_bag) l3 c3 k3, PySem.W.mg_of X G a3, (fun_mk (st := s__law_bag) l3 c3 k3).binds (ps := ["script"]) fun _ _ _ _ _ _ => len_of1 fun _ => by rfl⟩,
    f__law_bent_row := ⟨_, _, fun_mk (st := s__law_bent_row) l4 c4 k4, PySem.W.mg_of X G a4, (fun_mk (st := s__law_bent_row) l4 c4 k4).binds (ps := ["bag", "row", "many"]) fun _ _ _ _ _ _ => len_of3 fun _ _ _ => by rfl⟩,
    f__law_draw := ⟨_, _, fun_mk (st := s__law_draw) l5 c5 k5, PySem.W.mg_of X G a5, (fun_mk (st := s__law_draw) l5 c5 k5).binds (ps := ["bag", "many"]) fun _ _ _ _ _ _ => len_of2 fun _ _ => by rfl⟩,
    f__law_wild_script := ⟨_, _, fun_mk (st := s__law_wild_script) l6 c6 k6, PySem.W.mg_of X G a6, (fun_mk (st := s__law_wild_script) l6 c6 k6).binds (ps := ["bag"]) fun _ _ _ _ _ _ => len_of1 fun _ => by rfl⟩,
    f__law_words := ⟨_, _, fun_mk (st := s__law_words) l7 c7 k7, PySem.W.mg_of X G a7, (fun_mk (st := s__law_words) l7 c7 k7).binds (ps := ["bag"]) fun _ _ _ _ _ _ => len_of1 fun _ => by rfl⟩,
    f__law_written := ⟨_, _, fun_mk (st := s__law_written) l8 c8 k8, PySem.W.mg_of X G a8, (fun_mk (st := s__law_written) l8 c8 k8).binds (ps := ["script"]) fun _ _ _ _ _ _ => len_of1 fun _ => by rfl⟩,
    f_read := ⟨_, _, fun_mk (st := s_read) l9 c9 k9, PySem.W.mg_of X G a9, (fun_mk (st := s_read) l9 c9 k9).binds (ps := ["text"]) fun _ _ _ _ _ _ => len_of1 fun _ => by rfl⟩,
    f_shown := ⟨_, _, fun_mk (st := s_shown) l10 c10 k10, PySem.W.mg_of X G a10, (fun_mk (st := s_shown) l10 c10 k10).binds (ps := ["script"]) fun _ _ _ _ _ _ => len_of1 fun _ => by rfl⟩,
    f__law_any_row := ⟨_, _, fun_mk (st := s__law_any_row) l11 c11 k11, PySem.W.mg_of X G a11, (fun_mk (st := s__law_any_row) l11 c11 k11).binds (ps := ["bag", "word", "many"]) fun _ _ _ _ _ _ => len_of3 fun _ _ _ => by rfl⟩,
    f__law_letters := ⟨_, _, fun_mk (st := s__law_letters) l12 c12 k12, PySem.W.mg_of X G a12, (fun_mk (st := s__law_letters) l12 c12 k12).binds (ps := []) fun _ _ _ _ _ _ us hl => match us, hl with | [], _ => rfl⟩,
    f__law_any_sign := ⟨_, _, fun_mk (st := s__law_any_sign) l13 c13 k13, PySem.W.mg_of X G a13, (fun_mk (st := s__law_any_sign) l13 c13 k13).binds (ps := ["bag"]) fun _ _ _ _ _ _ => len_of1 fun _ => by rfl⟩,
    f__law_number := ⟨_, _, fun_mk (st := s__law_number) l14 c14 k14, PySem.W.mg_of X G a14, (fun_mk (st := s__law_number) l14 c14 k14).binds (ps := ["bag"]) fun _ _ _ _ _ _ => len_of1 fun _ => by rfl⟩,
    f_read_row := ⟨_, _, fun_mk (st := s_read_row) l15 c15 k15, PySem.W.mg_of X G a15, (fun_mk (st := s_read_row) l15 c15 k15).binds (ps := ["line"]) fun _ _ _ _ _ _ => len_of1 fun _ => by rfl⟩,
    f__law_part := ⟨_, _, fun_mk (st := s__law_part) l16 c16 k16, PySem.W.mg_of X G a16, (fun_mk (st := s__law_part) l16 c16 k16).binds (ps := ["bag", "letter", "many"]) fun _ _ _ _ _ _ => len_of3 fun _ _ _ => by rfl⟩,
    f_read_part := ⟨_, _, fun_mk (st := s_read_part) l17 c17 k17, PySem.W.mg_of X G a17, (fun_mk (st := s_read_part) l17 c17 k17).binds (ps := ["text", "letter"]) fun _ _ _ _ _ _ => len_of2 fun _ _ => by rfl⟩,
    f_is_name := ⟨_, _, fun_mk (st := s_is_name) l18 c18 k18, PySem.W.mg_of X G a18, (fun_mk (st := s_is_name) l18 c18 k18).binds (ps := ["text"]) fun _ _ _ _ _ _ => len_of1 fun _ => by rfl⟩,
    f_read_whole := ⟨_, _, fun_mk (st := s_read_whole) l19 c19 k19, PySem.W.mg_of X G a19, (fun_mk (st := s_read_whole) l19 c19 k19).binds (ps := ["text", "most"]) fun _ _ _ _ _ _ => len_of2 fun _ _ => by rfl⟩
  }
  exact ⟨PySem.W.fnOf "law" "law" (defArgs s_law) (defBody s_law) (defScope s_law) .none kV0 dc0 pm0 an0 cd0 ct0, fun s v => .of_eq rfl, fun base _ _ => ok_law (fun_mk (st := s_law) l0 c0 k0) T⟩
theorem walk {l : PySem.W.OpenLaw} {q : Program} {loose : List Str} {XP : (Str → Option Value) → Heap → Prop} {YP : World → Heap → Prop} {d : DefRec} {K : Params → PySem.W.Frag} (hn : l.most = some 63) (hdf : d.params.defaults = [])
    (hY : ∀ (w : World) (h : Heap), YP w h → (K w.params).In h)
    (F : ∀ (w : World) (mg : Str → Option Value) (fa : Addr) (h : Heap), (K w.params).In h → h.Ns mainGlobals mg → mg d.name = some (.ref fa) →
      ∃ fd : FuncData, (∀ (s : Shared) (u : Value), BindsTo s fd ⟨[u], []⟩ [("script", u)]) ∧ ∀ base : Heap, (K w.params).In base → base.Ns mainGlobals mg → FnOk l.prog w (K w.params) mg base CX0 8 fa fd ["script"] (spLaw (K w.params))) :
    PySem.W.WalkO q loose XP YP l.row.toRowW d [] (fun f vs => PySem.call f vs) :=
  L2.walk_of (n := 63) (k := 8) (x := "script") (CX := fun _ => CX0) (sp := fun w => spLaw (K w.params)) hn (by decide) hdf ⟨rfl, by decide, by decide⟩ hY F (fun _ _ a ns hl _ hS => ⟨a, ns, [], rfl, hl, scr_new hS, fun _ => rfl⟩) fun _ _ _ _ _ z => z
end Law
open PySem PySem.W PyProof.Rows in
set_option maxRecDepth 100000 in
set_option maxHeartbeats 0 in
theorem PySem.Challenge.cw_learnplace_k72_whole_texts_holds : PySem.Challenge.rw_learnplace_k72_whole_texts.Holds := by
  w_on; o_law; k_head; (case hw => w_witness2)
  k_fill
  refine Law.walk (l := PySem.Challenge.rw_learnplace_k72_whole_texts) rfl rfl (fun w h Y => PySem.W.kIn_of Y) ?F
  case F =>
    intro w mg fa h KX G hmg
    refine' Law.all_mk KX G hmg ?zc_NoText ?zc_HouseError ?a0 ?a1 ?a2 ?a3 ?a4 ?a5 ?a6 ?a7 ?a8 ?a9 ?a10 ?a11 ?a12 ?a13 ?a14 ?a15 ?a16 ?a17 ?a18 ?a19 ?zk_MOST_FIGURES ?zk_MOST_SIGNS ?zk_LETTERS ?zk_FIGURES ?l0 ?l1 ?l2 ?l3 ?l4 ?l5 ?l6 ?l7 ?l8 ?l9 ?l10 ?l11 ?l12 ?l13 ?l14 ?l15 ?l16 ?l17 ?l18 ?l19 ?zn_list ?zn_isinstance ?zn_str ?zn_len ?zn_tuple ?zn_all ?zn_bool ?zn_int ?zn_range ?zn_abs ?zn_zip ?zr_MOST_FIGURES ?zr_MOST_SIGNS ?zr_LETTERS ?zr_FIGURES ?zdb_PARTS ?zdo_PARTS ?zdz_PARTS ?zdzz_PARTS ?zx_NoText ?zkp_NoText ?zb_NoText ?zt_NoText ?zhg_NoText ?zhk_NoText ?zhd_NoText ?zha_NoText ?zhm_NoText ?zon ?zot ?c0 ?k0 ?c1 ?k1 ?c2 ?k2 ?c3 ?k3 ?c4 ?k4 ?c5 ?k5 ?c6 ?k6 ?c7 ?k7 ?c8 ?k8 ?c9 ?k9 ?c10 ?k10 ?c11 ?k11 ?c12 ?k12 ?c13 ?k13 ?c14 ?k14 ?c15 ?k15 ?c16 ?k16 ?c17 ?k17 ?c18 ?k18 ?c19 ?k19
    (case zc_NoText => k_is)
    (case zc_HouseError => k_is)
    (case a0 => k_is)
    (case a1 => k_is)
    (case a2 => k_is)
    (case a3 => k_is)
    (case a4 => k_is)
    (case a5 => k_is)
    (case a6 => k_is)
    (case a7 => k_is)
    (case a8 => k_is)
    (case a9 => k_is)
    (case a10 => k_is)
    (case a11 => k_is)
    (case a12 => k_is)
    (case a13 => k_is)
    (case a14 => k_is)
    (case a15 => k_is)
    (case a16 => k_is)
    (case a17 => k_is)
    (case a18 => k_is)
    (case a19 => k_is)
    (case zk_MOST_FIGURES => k_is)
    (case zk_MOST_SIGNS => k_is)
    (case zk_LETTERS => k_is)
    (case zk_FIGURES => k_is)
    (case l0 => k_is)
    (case l1 => k_is)
    (case l2 => k_is)
    (case l3 => k_is)
    (case l4 => k_is)
    (case l5 => k_is)
    (case l6 => k_is)
    (case l7 => k_is)
    (case l8 => k_is)
    (case l9 => k_is)
    (case l10 => k_is)
    (case l11 => k_is)
    (case l12 => k_is)
    (case l13 => k_is)
    (case l14 => k_is)
    (case l15 => k_is)
    (case l16 => k_is)
    (case l17 => k_is)
    (case l18 => k_is)
    (case l19 => k_is)
    (case zn_list => k_is)
    (case zn_isinstance => k_is)
    (case zn_str => k_is)
    (case zn_len => k_is)
    (case zn_tuple => k_is)
    (case zn_all => k_is)
    (case zn_bool => k_is)
    (case zn_int => k_is)
    (case zn_range => k_is)
    (case zn_abs => k_is)
    (case zn_zip => k_is)
    (case zr_MOST_FIGURES => first | exact rfl | exact ⟨_, rfl⟩)
    (case zr_MOST_SIGNS => first | exact rfl | exact ⟨_, rfl⟩)
    (case zr_LETTERS => first | exact rfl | exact ⟨_, rfl⟩)
    (case zr_FIGURES => first | exact rfl | exact ⟨_, rfl⟩)
    (case zdb_PARTS => k_is)
    (case zdo_PARTS => k_is)
    (case zdz_PARTS => exact ⟨[(_, _), (_, _), (_, _), (_, _), (_, _), (_, _), (_, _), (_, _), (_, _), (_, _), (_, _), (_, _), (_, _), (_, _), (_, _), (_, _), (_, _)], rfl, ⟨rfl, rfl, rfl⟩, _, rfl⟩)
    (case zdzz_PARTS => first | rfl | decide +kernel)
    (case zx_NoText => k_exc)
    (case zkp_NoText => k_is)
    (case zb_NoText => k_is)
    (case zt_NoText => k_is)
    (case zhg_NoText => k_is)
    (case zhk_NoText => k_is)
    (case zhd_NoText => k_is)
    (case zha_NoText => k_is)
    (case zhm_NoText => k_is)
    (case zon => k_is)
    (case zot => k_is)
    (case c0 => k_is)
    (case k0 => k_is)
    (case c1 => k_is)
    (case k1 => k_is)
    (case c2 => k_is)
    (case k2 => k_is)
    (case c3 => k_is)
    (case k3 => k_is)
    (case c4 => k_is)
    (case k4 => k_is)
    (case c5 => k_is)
    (case k5 => k_is)
    (case c6 => k_is)
    (case k6 => k_is)
    (case c7 => k_is)
    (case k7 => k_is)
    (case c8 => k_is)
    (case k8 => k_is)
    (case c9 => k_is)
    (case k9 => k_is)
    (case c10 => k_is)
    (case k10 => k_is)
    (case c11 => k_is)
    (case k11 => k_is)
    (case c12 => k_is)
    (case k12 => k_is)
    (case c13 => k_is)
    (case k13 => k_is)
    (case c14 => k_is)
    (case k14 => k_is)
    (case c15 => k_is)
    (case k15 => k_is)
    (case c16 => k_is)
    (case k16 => k_is)
    (case c17 => k_is)
    (case k17 => k_is)
    (case c18 => k_is)
    (case k18 => k_is)
    (case c19 => k_is)
    (case k19 => k_is)
#print axioms PySem.Challenge.cw_learnplace_k72_whole_texts_holds
