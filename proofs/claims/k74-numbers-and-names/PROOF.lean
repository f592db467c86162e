import PyProof.Rows.All
import Wide.All
import OpenK.AllK
import Wide.FinOn
import HandS.ForMost
import HandS.ForExc
import HandS.Wide
import HandS.TupAny
import HandS.Flow
import HandS.IsInst
import HandS.Codes
import HandS.Deep
import HandS.Conv
import HandS.Strs
import HandS.Style
import HandS.RaiseMore
import HandS.TupLe
import HandS.Walk
import HandS.HotCalls
import HandS.ExcCtx
import HandS.ExcIs
import KE.IntTextLaws
import PySem.Challenge.RW_learnplace_k74_numbers_and_names_read
set_option Elab.async false
set_option linter.all false
set_option maxRecDepth 100000
set_option maxHeartbeats 4000000
/-! Sat: what a heap holds, in parts that stand apart. A part is a partial heap; a cell is owned (false) or shared (true). -/
namespace Q
open PySem L2
abbrev PH := Addr → Option (HO × Bool)
def leH (h : PH) (H : Hp) : Prop := ∀ a o b, h a = some (o, b) → H a = some o
def leP (h g : PH) : Prop := ∀ a x, h a = some x → g a = some x
def ap (h g : PH) : Prop := ∀ a x y, h a = some x → g a = some y → x = y ∧ x.2 = true
abbrev Res := PH → Prop
theorem ap.symm {h g : PH} (x : ap h g) : ap g h := fun a u v hu hv => by
  obtain ⟨e, s⟩ := x a v u hv hu
  exact ⟨e.symm, by rw [← e]; exact s⟩
theorem ap.le {h g h' : PH} (x : ap h g) (l : leP h' h) : ap h' g := fun a u v hu hv => x a u v (l a u hu) hv
theorem leP.refl (h : PH) : leP h h := fun _ _ e => e
theorem leP.trans {a b c : PH} (x : leP a b) (y : leP b c) : leP a c := fun q u e => y q u (x q u e)
theorem leH.le {h g : PH} {H : Hp} (x : leH g H) (l : leP h g) : leH h H := fun a o b e => x a o b (l a _ e)
/-- parts that stand apart, each within g -/
def Parts (As : List Res) (ok : PH → Prop) : Prop := ∃ L : List (Res × PH), L.map (·.1) = As ∧ (∀ p ∈ L, p.1 p.2 ∧ ok p.2) ∧ L.Pairwise fun p q => ap p.2 q.2
def Sat (H : Hp) (As : List Res) : Prop := Parts As fun h => leH h H
def All (As : List Res) : Res := fun g => Parts As fun h => leP h g
def pts (a : Addr) (o : HO) : Res := fun h => h a = some (o, false)
def sh (a : Addr) (o : HO) : Res := fun h => h a = some (o, true)
def pure' (P : Prop) : Res := fun _ => P
def ex {α : Type} (f : α → Res) : Res := fun h => ∃ x, f x h

/-! ### lists of parts -/
theorem perm_lift {α β : Type} {f : α → β} : ∀ {l m : List β}, l.Perm m → ∀ L : List α, L.map f = l → ∃ M : List α, L.Perm M ∧ M.map f = m := by
  intro l m p
  induction p with
  | nil => exact fun L e => ⟨L, .refl _, e⟩
  | cons x _ ih =>
    intro L e
    match L, e with
    | y :: L, e =>
      obtain ⟨M, p1, e1⟩ := ih L (List.cons.inj e).2
      exact ⟨y :: M, p1.cons y, by rw [List.map_cons, e1, (List.cons.inj e).1]⟩
  | swap x y l =>
    intro L e
    match L, e with
    | u :: v :: L, e =>
      have e1 := (List.cons.inj e).1
      have e2 := (List.cons.inj (List.cons.inj e).2).1
      have e3 := (List.cons.inj (List.cons.inj e).2).2
      exact ⟨v :: u :: L, List.Perm.swap v u L, by rw [List.map_cons, List.map_cons, e1, e2, e3]⟩
  | trans _ _ ih1 ih2 =>
    intro L e
    obtain ⟨M, p1, e1⟩ := ih1 L e
    obtain ⟨N, p2, e2⟩ := ih2 M e1
    exact ⟨N, p1.trans p2, e2⟩
theorem Parts.perm {As Bs : List Res} {ok : PH → Prop} (h : Parts As ok) (p : As.Perm Bs) : Parts Bs ok := by
  obtain ⟨L, e, h1, h2⟩ := h
  obtain ⟨M, q, e2⟩ := perm_lift p L e
  exact ⟨M, e2, fun x hx => h1 x (q.mem_iff.mpr hx), q.pairwise h2 fun {x y} hx => ap.symm hx⟩
theorem Parts.imp {As : List Res} {ok ok' : PH → Prop} (h : Parts As ok) (f : ∀ g, ok g → ok' g) : Parts As ok' := by
  obtain ⟨L, e, h1, h2⟩ := h
  exact ⟨L, e, fun x hx => ⟨(h1 x hx).1, f _ (h1 x hx).2⟩, h2⟩
theorem Parts.nil {ok : PH → Prop} : Parts [] ok := ⟨[], rfl, fun _ h => absurd h List.not_mem_nil, .nil⟩
theorem Parts.cons_iff {A : Res} {As : List Res} {ok : PH → Prop} : Parts (A :: As) ok ↔ ∃ h, A h ∧ ok h ∧ Parts As fun g => ok g ∧ ap h g := by
  constructor
  · rintro ⟨L, e, h1, h2⟩
    match L, e with
    | (B, h) :: L, e =>
      obtain ⟨e1, e2⟩ := List.cons.inj e
      cases e1
      obtain ⟨q1, q2⟩ := List.pairwise_cons.mp h2
      obtain ⟨z1, z2⟩ := h1 _ List.mem_cons_self
      exact ⟨h, z1, z2, L, e2, fun x hx => ⟨(h1 x (List.mem_cons_of_mem _ hx)).1, (h1 x (List.mem_cons_of_mem _ hx)).2, q1 x hx⟩, q2⟩
  · rintro ⟨h, ha, ho, L, e, h1, h2⟩
    refine ⟨(A, h) :: L, by rw [List.map_cons, e], fun x hx => ?_, List.pairwise_cons.mpr ⟨fun x hx => (h1 x hx).2.2, h2⟩⟩
    rcases List.mem_cons.mp hx with rfl | hx
    · exact ⟨ha, ho⟩
    · exact ⟨(h1 x hx).1, (h1 x hx).2.1⟩
theorem Parts.append_iff {As Bs : List Res} {ok : PH → Prop} : Parts (As ++ Bs) ok ↔ ∃ L : List (Res × PH), L.map (·.1) = As ∧ (∀ p ∈ L, p.1 p.2 ∧ ok p.2) ∧ (L.Pairwise fun p q => ap p.2 q.2) ∧ Parts Bs fun g => ok g ∧ ∀ p ∈ L, ap p.2 g := by
  constructor
  · rintro ⟨L, e, h1, h2⟩
    obtain ⟨L1, L2, rfl, e1, e2⟩ := List.map_eq_append_iff.mp e
    obtain ⟨q1, q2, q3⟩ := List.pairwise_append.mp h2
    exact ⟨L1, e1, fun p hp => h1 p (List.mem_append_left _ hp), q1, L2, e2, fun p hp => ⟨(h1 p (List.mem_append_right _ hp)).1, (h1 p (List.mem_append_right _ hp)).2, fun q hq => q3 q hq p hp⟩, q2⟩
  · rintro ⟨L1, e1, h1, q1, L2, e2, h2, q2⟩
    refine ⟨L1 ++ L2, by rw [List.map_append, e1, e2], fun p hp => ?_, List.pairwise_append.mpr ⟨q1, q2, fun p hp q hq => (h2 q hq).2.2 p hp⟩⟩
    rcases List.mem_append.mp hp with hp | hp
    · exact h1 p hp
    · exact ⟨(h2 p hp).1, (h2 p hp).2.1⟩
/-- the parts joined -/
def joinL : List PH → PH
  | [] => fun _ => none
  | h :: r => fun a => (h a).or (joinL r a)
theorem joinL_le : ∀ {l : List PH} {g : PH}, (∀ h ∈ l, leP h g) → leP (joinL l) g
  | [], _, _, a, x, e => by cases e
  | h :: r, g, f, a, x, e => by
    have e' : (h a).or (joinL r a) = some x := e
    cases q : h a with
    | none =>
      rw [q, Option.none_or] at e'
      exact joinL_le (fun k hk => f k (List.mem_cons_of_mem _ hk)) a x e'
    | some y =>
      rw [q, Option.some_or] at e'
      cases e'
      exact f h List.mem_cons_self a _ q
theorem joinL_some : ∀ {l : List PH} {a : Addr} {x : HO × Bool}, joinL l a = some x → ∃ h ∈ l, h a = some x
  | [], _, _, e => by cases e
  | h :: r, a, x, e => by
    have e' : (h a).or (joinL r a) = some x := e
    cases q : h a with
    | none =>
      rw [q, Option.none_or] at e'
      obtain ⟨k, hk, z⟩ := joinL_some e'
      exact ⟨k, List.mem_cons_of_mem _ hk, z⟩
    | some y =>
      rw [q, Option.some_or] at e'
      cases e'
      exact ⟨h, List.mem_cons_self, q⟩
theorem le_joinL : ∀ {l : List PH}, l.Pairwise ap → ∀ h ∈ l, leP h (joinL l)
  | [], _, h, hh => absurd hh List.not_mem_nil
  | k :: r, p, h, hh => by
    obtain ⟨p1, p2⟩ := List.pairwise_cons.mp p
    intro a x e
    show (k a).or (joinL r a) = some x
    rcases List.mem_cons.mp hh with rfl | hh
    · rw [e]
      rfl
    · cases q : k a with
      | none =>
        rw [Option.none_or]
        exact le_joinL p2 h hh a x e
      | some y =>
        rw [Option.some_or, (p1 h hh a y x q e).1]
theorem Parts.all_cons {As Bs : List Res} {ok : PH → Prop} (hl : ∀ h g, leP h g → ok g → ok h) (hj : ∀ l : List PH, (∀ h ∈ l, ok h) → ok (joinL l)) : Parts (All As :: Bs) ok ↔ Parts (As ++ Bs) ok := by
  rw [Parts.cons_iff, Parts.append_iff]
  constructor
  · rintro ⟨h, ⟨L, e, h1, h2⟩, ho, hb⟩
    exact ⟨L, e, fun p hp => ⟨(h1 p hp).1, hl _ _ (h1 p hp).2 ho⟩, h2, hb.imp fun g hg => ⟨hg.1, fun p hp => hg.2.le (h1 p hp).2⟩⟩
  · rintro ⟨L, e, h1, h2, hb⟩
    have pw : (L.map (·.2)).Pairwise ap := List.pairwise_map.mpr h2
    refine ⟨joinL (L.map (·.2)), ⟨L, e, fun p hp => ⟨(h1 p hp).1, le_joinL pw _ (List.mem_map_of_mem hp)⟩, h2⟩, hj _ fun k hk => ?_, hb.imp fun g hg => ⟨hg.1, fun a x y hx hy => ?_⟩⟩
    · obtain ⟨p, hp, rfl⟩ := List.mem_map.mp hk
      exact (h1 p hp).2
    · obtain ⟨k, hk, z⟩ := joinL_some hx
      obtain ⟨p, hp, rfl⟩ := List.mem_map.mp hk
      exact hg.2 p hp a x y z hy
theorem leH_joinL {H : Hp} (l : List PH) (f : ∀ h ∈ l, leH h H) : leH (joinL l) H := fun a o b e => by
  obtain ⟨k, hk, z⟩ := joinL_some e
  exact f k hk a o b z

/-! ### Sat -/
section
variable {H H' : Hp} {A B : Res} {As Bs : List Res} {a p : Addr} {o o' : HO}
theorem Sat.perm (h : Sat H As) (q : As.Perm Bs) : Sat H Bs := Parts.perm h q
theorem Sat.nil : Sat H [] := Parts.nil
theorem Sat.same (h : Sat H As) (s : Same H H') : Sat H' As := Parts.imp h fun _ z a o b e => s a o (z a o b e)
theorem Sat.drop (h : Sat H (A :: As)) : Sat H As := by
  obtain ⟨_, _, _, q⟩ := Parts.cons_iff.mp h
  exact q.imp fun _ z => z.1
theorem Sat.imp (h : Sat H (A :: As)) (f : ∀ g, A g → B g) : Sat H (B :: As) := by
  obtain ⟨g, x, y, q⟩ := Parts.cons_iff.mp h
  exact Parts.cons_iff.mpr ⟨g, f g x, y, q⟩
theorem Sat.all : Sat H (All As :: Bs) ↔ Sat H (As ++ Bs) := Parts.all_cons (fun _ _ l z => z.le l) fun l f => leH_joinL l f
theorem Sat.ex {α : Type} {f : α → Res} : Sat H (ex f :: As) ↔ ∃ x, Sat H (f x :: As) := by
  constructor
  · intro h
    obtain ⟨g, ⟨x, z⟩, y, q⟩ := Parts.cons_iff.mp h
    exact ⟨x, Parts.cons_iff.mpr ⟨g, z, y, q⟩⟩
  · rintro ⟨x, h⟩
    exact h.imp fun g z => ⟨x, z⟩
theorem Sat.pure {P : Prop} : Sat H (pure' P :: As) ↔ P ∧ Sat H As := by
  constructor
  · intro h
    obtain ⟨g, z, _, _⟩ := Parts.cons_iff.mp h
    exact ⟨z, h.drop⟩
  · rintro ⟨z, h⟩
    refine Parts.cons_iff.mpr ⟨fun _ => none, z, fun _ _ _ e => ?_, Parts.imp h fun g q => ⟨q, fun _ _ _ e => ?_⟩⟩ <;> cases e
theorem Sat.read (h : Sat H (pts a o :: As)) : H a = some o := by
  obtain ⟨g, z, y, _⟩ := Parts.cons_iff.mp h
  exact y a o false z
theorem Sat.readS (h : Sat H (sh a o :: As)) : H a = some o := by
  obtain ⟨g, z, y, _⟩ := Parts.cons_iff.mp h
  exact y a o true z
theorem Sat.upd (o' : HO) (h : Sat H (pts a o :: As)) : Sat (upd H a o') (pts a o' :: As) := by
  obtain ⟨g, z, y, q⟩ := Parts.cons_iff.mp h
  refine Parts.cons_iff.mpr ⟨fun b => if b = a then some (o', false) else none, if_pos rfl, fun b u t e => ?_, q.imp fun k hk => ⟨fun b u t e => ?_, fun b x w e e2 => ?_⟩⟩
  · have e' : (if b = a then some (o', false) else none) = some (u, t) := e
    by_cases hb : b = a
    · rw [if_pos hb] at e'
      cases e'
      rw [hb]
      exact upd_same
    · rw [if_neg hb] at e'
      cases e'
  · by_cases hb : b = a
    · exact absurd (hk.2 a (o, false) (u, t) z (hb ▸ e)).2 Bool.false_ne_true
    · rw [upd_ne hb]
      exact hk.1 b u t e
  · have e' : (if b = a then some (o', false) else none) = some x := e
    by_cases hb : b = a
    · exact absurd (hk.2 a (o, false) w z (hb ▸ e2)).2 Bool.false_ne_true
    · rw [if_neg hb] at e'
      cases e'
theorem Sat.newB (t : Bool) (h : Sat H As) (hp : H p = none) : Sat (L2.upd H p o) ((fun h => h p = some (o, t)) :: As) := by
  refine Parts.cons_iff.mpr ⟨fun b => if b = p then some (o, t) else none, if_pos rfl, fun b u v e => ?_, Parts.imp h fun k hk => ⟨fun b u v e => ?_, fun b x w e e2 => ?_⟩⟩
  · have e' : (if b = p then some (o, t) else none) = some (u, v) := e
    by_cases hb : b = p
    · rw [if_pos hb] at e'
      cases e'
      rw [hb]
      exact upd_same
    · rw [if_neg hb] at e'
      cases e'
  · by_cases hb : b = p
    · rw [← hb, hk b u v e] at hp
      cases hp
    · rw [upd_ne hb]
      exact hk b u v e
  · have e' : (if b = p then some (o, t) else none) = some x := e
    by_cases hb : b = p
    · rw [hb] at e2
      rw [hk p w.1 w.2 e2] at hp
      cases hp
    · rw [if_neg hb] at e'
      cases e'
theorem Sat.new (h : Sat H As) (hp : H p = none) : Sat (L2.upd H p o) (pts p o :: As) := h.newB false hp
theorem Sat.newS (h : Sat H As) (hp : H p = none) : Sat (L2.upd H p o) (sh p o :: As) := h.newB true hp
/-- what is owned may be shared from now on -/
theorem Sat.share (h : Sat H (pts a o :: As)) : Sat H (sh a o :: As) := by
  obtain ⟨g, z, y, q⟩ := Parts.cons_iff.mp h
  refine Parts.cons_iff.mpr ⟨fun b => if b = a then some (o, true) else none, if_pos rfl, fun b u t e => ?_, q.imp fun k hk => ⟨hk.1, fun b x w e e2 => ?_⟩⟩
  · have e' : (if b = a then some (o, true) else none) = some (u, t) := e
    by_cases hb : b = a
    · rw [if_pos hb] at e'
      cases e'
      rw [hb]
      exact y a o false z
    · rw [if_neg hb] at e'
      cases e'
  · have e' : (if b = a then some (o, true) else none) = some x := e
    by_cases hb : b = a
    · exact absurd (hk.2 a (o, false) w z (hb ▸ e2)).2 Bool.false_ne_true
    · rw [if_neg hb] at e'
      cases e'
/-- a resource that is shared throughout -/
def Pers (A : Res) : Prop := ∀ g, A g → ∃ k, A k ∧ leP k g ∧ ∀ b x, k b = some x → x.2 = true
theorem Sat.dup (hA : Pers A) (h : Sat H (A :: As)) : Sat H (A :: A :: As) := by
  obtain ⟨g, z, y, q⟩ := Parts.cons_iff.mp h
  obtain ⟨k, z2, l, s⟩ := hA g z
  refine Parts.cons_iff.mpr ⟨k, z2, y.le l, Parts.cons_iff.mpr ⟨k, z2, ⟨y.le l, fun b u v e1 e2 => ?_⟩, q.imp fun m hm => ⟨⟨hm.1, hm.2.le l⟩, hm.2.le l⟩⟩⟩
  rw [e1] at e2
  exact ⟨Option.some.inj e2, s b u e1⟩
theorem one_some {t : Bool} {b : Addr} {x : HO × Bool} (e : (if b = a then some (o, t) else none) = some x) : b = a ∧ x = (o, t) := by
  by_cases hb : b = a
  · rw [if_pos hb] at e
    exact ⟨hb, (Option.some.inj e).symm⟩
  · rw [if_neg hb] at e
    cases e
theorem pers_sh : Pers (sh a o) := by
  intro g z
  refine ⟨fun b => if b = a then some (o, true) else none, if_pos rfl, fun b x e => ?_, fun b x e => ?_⟩
  · obtain ⟨h1, h2⟩ := one_some e
    rw [h1, h2]
    exact z
  · rw [(one_some e).2]
/-- bring the i-th to the front -/
theorem front_perm {α : Type} : ∀ (i : Nat) (l : List α) (x : α), l[i]? = some x → l.Perm (x :: l.eraseIdx i)
  | _, [], _, e => by simp at e
  | 0, y :: l, x, e => by
    have e' : y = x := Option.some.inj e
    subst e'
    exact .refl _
  | i + 1, y :: l, x, e => by
    have h := front_perm i l x e
    exact (h.cons y).trans (List.Perm.swap x y _)
theorem Sat.at (i : Nat) (h : Sat H As) (e : As[i]? = some A := by rfl) : Sat H (A :: As.eraseIdx i) := h.perm (front_perm i As A e)
end
end Q
/-! U: one rule for each operator, by the values at hand. -/
namespace Q
open PySem PySem.Spec PyProof.Rows L2
section
variable {X : Cx}
/-! ### operators -/
def rAddU (K : PySem.W.Frag) : R2 := fun x y H Q => match x, y with
  | .int i, .int j => Q (.int (i + j)) H
  | .str i, .str j => i.length + j.length ≤ sizeLine ∧ Q (.str (i ++ j)) H
  | .ref a, .ref b => rCat (.ref a) (.ref b) H Q ∨ rCatA K (.ref a) (.ref b) H Q
  | _, _ => False
theorem op_addU' : OpR X (binaryOp .Add) (rAddU X.K) := by
  intro pins s σ H x y v u Q I rx ry h
  match x, y, rx, ry, h with
  | .int i, .int j, rx, ry, h => exact op_add pins s σ H _ _ v u Q I rx ry ⟨i, j, rfl, rfl, h⟩
  | .str i, .str j, rx, ry, h => exact op_add_str pins s σ H _ _ v u Q I rx ry ⟨i, j, rfl, rfl, h.1, h.2⟩
  | .ref a, .ref b, rx, ry, h =>
    rcases h with h | h
    · exact op_cat pins s σ H _ _ v u Q I rx ry h
    · exact op_catA pins s σ H _ _ v u Q I rx ry h
def rSubU : R2 := fun x y H Q => match x, y with
  | .int i, .int j => Q (.int (i - j)) H
  | _, _ => False
theorem op_subU : OpR X (binaryOp .Sub) rSubU := by
  intro pins s σ H x y v u Q I rx ry h
  match x, y, rx, ry, h with
  | .int i, .int j, rx, ry, h => exact op_sub pins s σ H _ _ v u Q I rx ry ⟨i, j, rfl, rfl, h⟩
def rMulU : R2 := fun x y H Q => match x, y with
  | .int i, .int j => (CMul i j ∨ CMulW i j) ∧ Q (.int (i * j)) H
  | .ref a, .int j => rRep (.ref a) (.int j) H Q
  | _, _ => False
theorem op_mulU : OpR X (binaryOp .Mult) rMulU := by
  intro pins s σ H x y v u Q I rx ry h
  match x, y, rx, ry, h with
  | .int i, .int j, rx, ry, ⟨.inl c, h⟩ => exact op_mul pins s σ H _ _ v u Q I rx ry ⟨i, j, rfl, rfl, c, h⟩
  | .int i, .int j, rx, ry, ⟨.inr c, h⟩ => exact op_mulW pins s σ H _ _ v u Q I rx ry ⟨i, j, rfl, rfl, c, h⟩
  | .ref a, .int j, rx, ry, h => exact op_rep pins s σ H _ _ v u Q I rx ry h
def rModU : R2 := fun x y H Q => match x, y with
  | .int i, .int j => 0 < j ∧ Q (.int (i % j)) H
  | _, _ => False
theorem op_modU : OpR X (binaryOp .Mod) rModU := by
  intro pins s σ H x y v u Q I rx ry h
  match x, y, rx, ry, h with
  | .int i, .int j, rx, ry, h => exact op_mod pins s σ H _ _ v u Q I rx ry ⟨i, j, rfl, rfl, h.1, h.2⟩
def rDivU : R2 := fun x y H Q => match x, y with
  | .int i, .int j => CDivW i j ∧ Q (.int (i / j)) H
  | _, _ => False
theorem op_divU : OpR X (binaryOp .FloorDiv) rDivU := by
  intro pins s σ H x y v u Q I rx ry h
  match x, y, rx, ry, h with
  | .int i, .int j, rx, ry, h => exact op_fdivW pins s σ H _ _ v u Q I rx ry ⟨i, j, rfl, rfl, h.1, h.2⟩
def rPowU : R2 := fun x y H Q => match x, y with
  | .int i, .int j => CPow i j ∧ Q (.int (i ^ j.toNat)) H
  | _, _ => False
theorem op_powU : OpR X (binaryOp .Pow) rPowU := by
  intro pins s σ H x y v u Q I rx ry h
  match x, y, rx, ry, h with
  | .int i, .int j, rx, ry, h => exact op_pow pins s σ H _ _ v u Q I rx ry ⟨i, j, rfl, rfl, h.1, h.2⟩
def rNegU : V → Hp → VK → Prop := fun x H Q => match x with
  | .int i => Q (.int (-i)) H
  | _ => False
theorem un_negU : UnR X (unaryOp .USub) rNegU := by
  intro pins s σ H x v Q I rx h
  match x, rx, h with
  | .int i, rx, h => exact un_neg pins s σ H _ v Q I rx ⟨i, rfl, h⟩
/-! ### comparisons -/
def rLtU : R2 := fun x y H Q => match x, y with
  | .int i, .int j => Q (.bl (decide (i < j))) H
  | _, _ => False
theorem op_ltU : OpR X (compareOp .Lt) rLtU := by
  intro pins s σ H x y v u Q I rx ry h
  match x, y, rx, ry, h with
  | .int i, .int j, rx, ry, h => exact op_lt pins s σ H _ _ v u Q I rx ry ⟨i, j, rfl, rfl, h⟩
def rLeU : R2 := fun x y H Q => match x, y with
  | .int i, .int j => Q (.bl (decide (i ≤ j))) H
  | _, _ => False
theorem op_leU : OpR X (compareOp .LtE) rLeU := by
  intro pins s σ H x y v u Q I rx ry h
  match x, y, rx, ry, h with
  | .int i, .int j, rx, ry, h => exact op_le pins s σ H _ _ v u Q I rx ry ⟨i, j, rfl, rfl, h⟩
def rGtU : R2 := fun x y H Q => match x, y with
  | .int i, .int j => Q (.bl (decide (j < i))) H
  | _, _ => False
theorem op_gtU : OpR X (compareOp .Gt) rGtU := by
  intro pins s σ H x y v u Q I rx ry h
  match x, y, rx, ry, h with
  | .int i, .int j, rx, ry, h => exact op_gt pins s σ H _ _ v u Q I rx ry ⟨i, j, rfl, rfl, h⟩
def rGeU : R2 := fun x y H Q => match x, y with
  | .int i, .int j => Q (.bl (decide (j ≤ i))) H
  | _, _ => False
theorem op_geU : OpR X (compareOp .GtE) rGeU := by
  intro pins s σ H x y v u Q I rx ry h
  match x, y, rx, ry, h with
  | .int i, .int j, rx, ry, h => exact op_ge pins s σ H _ _ v u Q I rx ry ⟨i, j, rfl, rfl, h⟩
/-- is: beside None or a truth -/
def rIsU (neg : Bool) : R2 := fun x y H Q => match y with
  | .non => Q (.bl (if neg then !decide (x = .non) else decide (x = .non))) H
  | .bl b => ∃ a, x = .bl a ∧ Q (.bl (if neg then !decide (a = b) else decide (a = b))) H
  | _ => False
theorem op_isU : OpR X (compareOp .Is) (rIsU false) := by
  intro pins s σ H x y v u Q I rx ry h
  match y, ry, h with
  | .non, ry, h => exact op_isN pins s σ H _ _ v u Q I rx ry ⟨rfl, h⟩
  | .bl b, ry, ⟨a, e, h⟩ => exact op_is_bl pins s σ H _ _ v u Q I rx ry ⟨a, b, e, rfl, h⟩
theorem op_isnotU : OpR X (compareOp .IsNot) (rIsU true) := by
  intro pins s σ H x y v u Q I rx ry h
  match y, ry, h with
  | .non, ry, h => exact op_notN pins s σ H _ _ v u Q I rx ry ⟨rfl, h⟩
  | .bl b, ry, ⟨a, e, h⟩ => exact op_isnot_bl pins s σ H _ _ v u Q I rx ry ⟨a, b, e, rfl, h⟩
/-- ==, != of scalars or of data of any depth -/
def rEqU (K : PySem.W.Frag) : R2 := fun x y H Q => rEq x y H Q ∨ rEqD K x y H Q
def rNeU (K : PySem.W.Frag) : R2 := fun x y H Q => rNe x y H Q ∨ rNeD K x y H Q
theorem op_eqU' (hu : X.A.units + 64 < cLine) : OpR X (compareOp .Eq) (rEqU X.K) := OpR.or op_eq (op_eqD hu)
theorem op_neU' (hu : X.A.units + 64 < cLine) : OpR X (compareOp .NotEq) (rNeU X.K) := OpR.or op_ne (op_neD hu)
/-- in -/
def rInU (K : PySem.W.Frag) (neg : Bool) : R2 := fun x y H Q => match y with
  | .str z => (∃ c : Nat, x = .str ⟨#[c]⟩ ∧ Q (.bl (if neg then !decide (c ∈ z.cps.toList) else decide (c ∈ z.cps.toList))) H)
  | .ref a => rIn K neg x (.ref a) H Q ∨ (if neg then rNotInD K else rInD K) x (.ref a) H Q ∨ ∃ o, DGet H a x o ∧ Q (.bl (if neg then !o.isSome else o.isSome)) H
  | _ => False
theorem op_inU' (hu : X.A.units + 65 < cLine) : OpR X (compareOp .In) (rInU X.K false) := by
  intro pins s σ H x y v u Q I rx ry h
  match y, ry, h with
  | .str z, ry, ⟨c, e, h⟩ => exact op_in_sign pins s σ H _ _ v u Q I rx ry ⟨c, z, e, rfl, h⟩
  | .ref a, ry, .inl h => exact op_in_seq pins s σ H _ _ v u Q I rx ry h
  | .ref a, ry, .inr (.inl h) => exact op_inD hu pins s σ H _ _ v u Q I rx ry h
  | .ref a, ry, .inr (.inr ⟨o, g, h⟩) =>
    cases ry
    exact d_in (by omega) I g rx fun s' I' => ⟨.bl _, H, I', rfl, h⟩
theorem op_notinU' (hu : X.A.units + 65 < cLine) : OpR X (compareOp .NotIn) (rInU X.K true) := by
  intro pins s σ H x y v u Q I rx ry h
  match y, ry, h with
  | .str z, ry, ⟨c, e, h⟩ => exact op_notIn_sign pins s σ H _ _ v u Q I rx ry ⟨c, z, e, rfl, h⟩
  | .ref a, ry, .inl h => exact op_notIn_seq pins s σ H _ _ v u Q I rx ry h
  | .ref a, ry, .inr (.inl h) => exact op_notInD hu pins s σ H _ _ v u Q I rx ry h
  | .ref a, ry, .inr (.inr ⟨o, g, h⟩) =>
    cases ry
    exact d_notIn (by omega) I g rx fun s' I' => ⟨.bl _, H, I', rfl, h⟩
/-! ### subscripts -/
def rIxU (K : PySem.W.Frag) : R2 := fun x y H Q => match x with
  | .str z => ∃ i c, y = .int i ∧ z.length ≤ sizeLine ∧ atI z.cps.toList i = some c ∧ Q (.str ⟨#[c]⟩) H
  | .ref a => (∃ xs i v, y = .int i ∧ (SqL K H a xs ∨ SqT K H a xs) ∧ atI xs i = some v ∧ Q v H) ∨ ∃ v, DGet H a y (some v) ∧ Q v H
  | _ => False
theorem ix_dict (hu : X.A.units + 1 < cLine) : IxR X (fun x y H Q => ∃ a v, x = .ref a ∧ DGet H a y (some v) ∧ Q v H) := by
  intro value slice pins s σ H x y v u Q I rx ry h hs
  obtain ⟨a, w, rfl, g, q⟩ := h
  cases rx
  exact tail_any (dict_typeIs I g) PySem.F.slot_dict_getitem.lookup (d_getItem hu I g ry fun w' s3 I3 rw' => ⟨w, H, I3, rw', q⟩) hs
theorem ix_U' (hu : X.A.units + 1 < cLine) : IxR X (rIxU X.K) := by
  intro value slice pins s σ H x y v u Q I rx ry h hs
  match x, rx, h with
  | .str z, rx, ⟨i, c, e, h1, h2, h⟩ => exact ix_str value slice pins s σ H _ _ v u Q I rx ry ⟨z, i, c, rfl, e, h1, h2, h⟩ hs
  | .ref a, rx, .inl ⟨xs, i, w, e, .inl h1, h2, h⟩ => exact ix_list value slice pins s σ H _ _ v u Q I rx ry ⟨a, xs, i, w, rfl, e, h1, h2, h⟩ hs
  | .ref a, rx, .inl ⟨xs, i, w, e, .inr h1, h2, h⟩ => exact ix_tup value slice pins s σ H _ _ v u Q I rx ry ⟨a, xs, i, w, rfl, e, h1, h2, h⟩ hs
  | .ref a, rx, .inr ⟨w, g, h⟩ => exact ix_dict hu value slice pins s σ H _ _ v u Q I rx ry ⟨a, w, rfl, g, h⟩ hs
def rSlU (K : PySem.W.Frag) : V → Option Int → Option Int → Hp → VK → Prop := fun x lo hi H Q => match x with
  | .str z => z.length ≤ sizeLine ∧ Q (.str (Txt.slice z lo hi)) H
  | .ref a => (∃ xs, SqL K H a xs ∧ ∀ p, H p = none → Q (.ref p) (upd H p (.lst (cutV xs lo hi)))) ∨ rSlA K (.ref a) lo hi H Q
  | _ => False
theorem sl_U' : SlR X (rSlU X.K) := by
  intro pins s σ H x v vl vu lo hi sl Q I rx hs pl pu h
  match x, rx, h with
  | .str z, rx, h => exact C8.sl_txt pins s σ H _ v vl vu lo hi sl Q I rx hs pl pu ⟨z, rfl, h.1, h.2⟩
  | .ref a, rx, .inl ⟨xs, h1, h⟩ => exact sl_list pins s σ H _ v vl vu lo hi sl Q I rx hs pl pu ⟨a, xs, rfl, h1, h⟩
  | .ref a, rx, .inr h => exact sl_tupA pins s σ H _ v vl vu lo hi sl Q I rx hs pl pu h
def rSetU : V → V → V → Hp → (Hp → Prop) → Prop := fun o i v H Q => ∃ a, o = .ref a ∧ ((∃ xs k j, i = .int k ∧ H a = some (.lst xs) ∧ ixN xs.length k = some j ∧ Q (upd H a (.lst (xs.set j v)))) ∨ ∃ H', DPut H a i v H' ∧ Q H')
theorem set_U (hu : X.A.units + 1 < cLine) : PSet X rSetU := by
  intro pins s σ H o i v ov iv u Q I ro ri rv h
  obtain ⟨a, rfl, h⟩ := h
  rcases h with ⟨xs, k, j, e, h1, h2, h⟩ | ⟨H', g, h⟩
  · exact set_list pins s σ H _ i v ov iv u Q I ro ri rv ⟨a, xs, k, j, rfl, e, h1, h2, h⟩
  · cases ro
    exact d_setItem hu I g ri rv fun s' I' => ⟨H', I', h⟩
/-! ### len, truth -/
def rLenU (K : PySem.W.Frag) : List V → Hp → VK → Prop := fun xs H Q => ∃ x, xs = [x] ∧ ((∃ n, LenV K x H n ∧ Q (.int n) H) ∨ ∃ a kvs, x = .ref a ∧ H a = some (.dK kvs) ∧ Q (.int kvs.length) H)
theorem call_lenU' : CallR X (.builtin "len") (rLenU X.K) := by
  intro pins s σ H xs us Q I r h
  obtain ⟨x, rfl, h⟩ := h
  rcases h with ⟨n, h1, h⟩ | ⟨a, kvs, rfl, h1, h⟩
  · exact call_len pins s σ H _ us Q I r ⟨x, n, rfl, h1, h⟩
  · exact call_lenD pins s σ H _ us Q I r ⟨a, kvs, rfl, h1, h⟩
def rAbsU : List V → Hp → VK → Prop := fun xs H Q => match xs with
  | [.int i] => Q (.int (if i < 0 then -i else i)) H
  | _ => False
theorem call_absU : CallR X (.builtin "abs") rAbsU := by
  intro pins s σ H xs us Q I r h
  match xs, r, h with
  | [.int i], r, h => exact call_abs pins s σ H _ us Q I r ⟨i, rfl, h⟩
def rMax2U : List V → Hp → VK → Prop := fun xs H Q => match xs with
  | [.int i, .int j] => Q (.int (if j > i then j else i)) H
  | _ => False
theorem call_max2U (hc : X.calm = true) : CallR X (.builtin "max") rMax2U := by
  intro pins s σ H xs us Q I r h
  match xs, r, h with
  | [.int i, .int j], r, h => exact call_max2 hc pins s σ H _ us Q I r ⟨i, j, rfl, h⟩
def rMin2U : List V → Hp → VK → Prop := fun xs H Q => match xs with
  | [.int i, .int j] => Q (.int (if j < i then j else i)) H
  | _ => False
theorem call_min2U (hc : X.calm = true) : CallR X (.builtin "min") rMin2U := by
  intro pins s σ H xs us Q I r h
  match xs, r, h with
  | [.int i, .int j], r, h => exact call_min2 hc pins s σ H _ us Q I r ⟨i, j, rfl, h⟩
/-! ### the same with the written part named -/
variable (K : PySem.W.Frag)
theorem op_addU (h : X.K = K := by rfl) : OpR X (binaryOp .Add) (rAddU K) := h ▸ op_addU'
theorem op_eqU (hu : X.A.units + 64 < cLine) (h : X.K = K := by rfl) : OpR X (compareOp .Eq) (rEqU K) := h ▸ op_eqU' hu
theorem op_neU (hu : X.A.units + 64 < cLine) (h : X.K = K := by rfl) : OpR X (compareOp .NotEq) (rNeU K) := h ▸ op_neU' hu
theorem op_inU (hu : X.A.units + 65 < cLine) (h : X.K = K := by rfl) : OpR X (compareOp .In) (rInU K false) := h ▸ op_inU' hu
theorem op_notinU (hu : X.A.units + 65 < cLine) (h : X.K = K := by rfl) : OpR X (compareOp .NotIn) (rInU K true) := h ▸ op_notinU' hu
theorem ix_U (hu : X.A.units + 1 < cLine) (h : X.K = K := by rfl) : IxR X (rIxU K) := h ▸ ix_U' hu
theorem sl_U (h : X.K = K := by rfl) : SlR X (rSlU K) := h ▸ sl_U'
theorem call_lenU (h : X.K = K := by rfl) : CallR X (.builtin "len") (rLenU K) := h ▸ call_lenU'
theorem pe_andK {a b : Expr} {rest : List Expr} {ta tb : TE} {pos : Pos} (ha : PE X a ta) (hb : PE X (.BoolOp .And (b :: rest) pos) tb) (h : X.K = K := by rfl) : PE X (.BoolOp .And (a :: b :: rest) pos) (tAndT K ta tb) := h ▸ pe_andT ha hb
theorem pe_orK {a b : Expr} {rest : List Expr} {ta tb : TE} {pos : Pos} (ha : PE X a ta) (hb : PE X (.BoolOp .Or (b :: rest) pos) tb) (h : X.K = K := by rfl) : PE X (.BoolOp .Or (a :: b :: rest) pos) (tOrT K ta tb) := h ▸ pe_orT ha hb
theorem pe_notK {a : Expr} {ta : TE} {pos : Pos} (ha : PE X a ta) (h : X.K = K := by rfl) : PE X (.UnaryOp .Not a pos) (tNotT K ta) := h ▸ pe_notT ha
theorem pe_fldK {e : Expr} {ta : TE} {f : Str} {pos : Pos} (he : PE X e ta) (hb : attributeBase e f X.env (eval e X.env) = eval e X.env) (h : X.K = K := by rfl) : PE X (.Attribute e f pos) (tFld K ta f) := h ▸ pe_fld he hb
theorem ps_fldK {o value : Expr} {ta tv : TE} {f : Str} {pos pos' : Pos} (ha : PE X o ta) (hv : PE X value tv) (hs : swapsWith value (some (.Attribute o f pos')) pos.line X.env = pure false) (h : X.K = K := by rfl) : PS X (.Assign [.Attribute o f pos'] value pos) (sFld K ta tv f) := h ▸ ps_fld ha hv hs
theorem pg_tupK {es : List Expr} {k : Nat} {t : TGs} {n : Nat} {pos : Pos} (hc : X.calm = true) (g : PGs X es t) (hn : (assignEach es X.env).length = n := by rfl) (h2 : (assignEach es X.env).findIdx? (·.1) = none := by rfl) (h : X.K = K := by rfl) : PG X (.Tuple es k pos) (gTup K n t) :=
  h ▸ pg_tup hc g hn h2
end
end Q
/-! W: readings step by step; what the heap holds is told by Sat alone. -/
namespace Q
open PySem PySem.Spec PyProof.Rows L2
section
variable {K : PySem.W.Frag} {σ : L2.St} {H : Hp} {Q : VK} {i : Nat} {v x y : V} {ta tb tc te : TE} {t u c : TT} {r : R2} {D : Ends} {tu tw tz : TS} {As : List Res} {a l p : Addr} {xs ys : List V} {tr : TA}
theorem w_var (h : σ[i]? = some (some v)) (k : Q v H) : tVar i σ H Q := ⟨v, h, k⟩
theorem w_c (k : Q v H) : tC v σ H Q := k
theorem w_op (k : ta σ H fun x H1 => tb σ H1 fun y H2 => r x y H2 Q) : tOp r ta tb σ H Q := k
theorem w_un {r : V → Hp → VK → Prop} (k : ta σ H fun x H1 => r x H1 Q) : tUn r ta σ H Q := k
theorem w_neg {n : Int} (k : Q (.int (-n)) H) : rNegU (.int n) H Q := k
theorem w_addI {m n : Int} (k : Q (.int (m + n)) H) : rAddU K (.int m) (.int n) H Q := k
theorem w_addS {m n : Str} (h : m.length + n.length ≤ 1000000) (k : Q (.str (m ++ n)) H) : rAddU K (.str m) (.str n) H Q := ⟨Nat.le_trans h (by decide), k⟩
theorem w_addSg {m n : Str} (h : m.length + n.length ≤ 1000000) (k : ∀ z, z = m ++ n → Q (.str z) H) : rAddU K (.str m) (.str n) H Q := w_addS h (k _ rfl)
theorem w_sub {m n : Int} (k : Q (.int (m - n)) H) : rSubU (.int m) (.int n) H Q := k
theorem w_mul {m n : Int} (h : CMul m n ∨ CMulW m n) (k : Q (.int (m * n)) H) : rMulU (.int m) (.int n) H Q := ⟨h, k⟩
theorem w_mod {m n : Int} (h : 0 < n) (k : Q (.int (m % n)) H) : rModU (.int m) (.int n) H Q := ⟨h, k⟩
theorem w_div {m n : Int} (h : CDivW m n) (k : Q (.int (m / n)) H) : rDivU (.int m) (.int n) H Q := ⟨h, k⟩
theorem w_pow {m n : Int} (h : CPow m n) (k : Q (.int (m ^ n.toNat)) H) : rPowU (.int m) (.int n) H Q := ⟨h, k⟩
theorem w_lt {m n : Int} (k : Q (.bl (decide (m < n))) H) : rLtU (.int m) (.int n) H Q := k
theorem w_le {m n : Int} (k : Q (.bl (decide (m ≤ n))) H) : rLeU (.int m) (.int n) H Q := k
theorem w_gt {m n : Int} (k : Q (.bl (decide (n < m))) H) : rGtU (.int m) (.int n) H Q := k
theorem w_ge {m n : Int} (k : Q (.bl (decide (n ≤ m))) H) : rGeU (.int m) (.int n) H Q := k
theorem w_eqI {m n : Int} (k : Q (.bl (decide (m = n))) H) : rEqU K (.int m) (.int n) H Q := .inl ⟨rfl, by
  have e : decide (V.int m = V.int n) = decide (m = n) := by simp
  rw [e]
  exact k⟩
theorem w_eqS {m n : Str} (k : Q (.bl (decide (m = n))) H) : rEqU K (.str m) (.str n) H Q := .inl ⟨rfl, by
  have e : decide (V.str m = V.str n) = decide (m = n) := by simp
  rw [e]
  exact k⟩
theorem w_eqB {m n : Bool} (k : Q (.bl (decide (m = n))) H) : rEqU K (.bl m) (.bl n) H Q := .inl ⟨rfl, by
  have e : decide (V.bl m = V.bl n) = decide (m = n) := by simp
  rw [e]
  exact k⟩
theorem w_neI {m n : Int} (k : Q (.bl (!decide (m = n))) H) : rNeU K (.int m) (.int n) H Q := .inl ⟨rfl, by
  have e : decide (V.int m = V.int n) = decide (m = n) := by simp
  rw [e]
  exact k⟩
theorem w_neS {m n : Str} (k : Q (.bl (!decide (m = n))) H) : rNeU K (.str m) (.str n) H Q := .inl ⟨rfl, by
  have e : decide (V.str m = V.str n) = decide (m = n) := by simp
  rw [e]
  exact k⟩
theorem w_neB {m n : Bool} (k : Q (.bl (!decide (m = n))) H) : rNeU K (.bl m) (.bl n) H Q := .inl ⟨rfl, by
  have e : decide (V.bl m = V.bl n) = decide (m = n) := by simp
  rw [e]
  exact k⟩
theorem w_isN (k : Q (.bl (decide (x = .non))) H) : rIsU false x .non H Q := k
theorem w_notN (k : Q (.bl (!decide (x = .non))) H) : rIsU true x .non H Q := k
theorem w_isB {m n : Bool} (k : Q (.bl (decide (m = n))) H) : rIsU false (.bl m) (.bl n) H Q := ⟨m, rfl, k⟩
theorem w_notB {m n : Bool} (k : Q (.bl (!decide (m = n))) H) : rIsU true (.bl m) (.bl n) H Q := ⟨m, rfl, k⟩
/-! ### what stands in the heap -/
theorem Sat.get (S : Sat H As) (i : Nat) {o : HO} (e : As[i]? = some (pts a o)) : H a = some o := (S.at i e).read
theorem Sat.getS (S : Sat H As) (i : Nat) {o : HO} (e : As[i]? = some (sh a o)) : H a = some o := (S.at i e).readS
theorem set_perm {α : Type} : ∀ (i : Nat) (l : List α) (x : α) (y : α), l[i]? = some x → (y :: l.eraseIdx i).Perm (l.set i y)
  | _, [], _, _, e => by simp at e
  | 0, z :: l, x, y, e => .refl _
  | i + 1, z :: l, x, y, e => (List.Perm.swap z y _).trans ((set_perm i l x y e).cons z)
theorem Sat.set (S : Sat H As) (i : Nat) {o : HO} (o' : HO) (e : As[i]? = some (pts a o)) : Sat (L2.upd H a o') (As.set i (pts a o')) := ((S.at i e).upd o').perm (set_perm i As _ _ e)
theorem c0 {o : HO} (S : Sat H (pts a o :: As)) : H a = some o := S.read
theorem c1 {A : Res} {o : HO} (S : Sat H (A :: pts a o :: As)) : H a = some o := S.drop.read
theorem c2 {A B : Res} {o : HO} (S : Sat H (A :: B :: pts a o :: As)) : H a = some o := S.drop.drop.read
theorem c3 {A B C : Res} {o : HO} (S : Sat H (A :: B :: C :: pts a o :: As)) : H a = some o := S.drop.drop.drop.read
theorem c4 {A B C E : Res} {o : HO} (S : Sat H (A :: B :: C :: E :: pts a o :: As)) : H a = some o := S.drop.drop.drop.drop.read
theorem c5 {A B C E F : Res} {o : HO} (S : Sat H (A :: B :: C :: E :: F :: pts a o :: As)) : H a = some o := S.drop.drop.drop.drop.drop.read
theorem c6 {A B C E F G : Res} {o : HO} (S : Sat H (A :: B :: C :: E :: F :: G :: pts a o :: As)) : H a = some o := S.drop.drop.drop.drop.drop.drop.read
theorem d0 {o : HO} (S : Sat H (sh a o :: As)) : H a = some o := S.readS
theorem d1 {A : Res} {o : HO} (S : Sat H (A :: sh a o :: As)) : H a = some o := S.drop.readS
theorem d2 {A B : Res} {o : HO} (S : Sat H (A :: B :: sh a o :: As)) : H a = some o := S.drop.drop.readS
theorem d3 {A B C : Res} {o : HO} (S : Sat H (A :: B :: C :: sh a o :: As)) : H a = some o := S.drop.drop.drop.readS
theorem d4 {A B C E : Res} {o : HO} (S : Sat H (A :: B :: C :: E :: sh a o :: As)) : H a = some o := S.drop.drop.drop.drop.readS
theorem d5 {A B C E F : Res} {o : HO} (S : Sat H (A :: B :: C :: E :: F :: sh a o :: As)) : H a = some o := S.drop.drop.drop.drop.drop.readS
theorem d6 {A B C E F G : Res} {o : HO} (S : Sat H (A :: B :: C :: E :: F :: G :: sh a o :: As)) : H a = some o := S.drop.drop.drop.drop.drop.drop.readS
/-! ### subscripts, fields -/
theorem w_ixL {n : Int} (h : H a = some (.lst xs)) (e : atI xs n = some v) (k : Q v H) : rIxU K (.ref a) (.int n) H Q := .inl ⟨xs, n, v, rfl, .inl (.of h), e, k⟩
theorem atI_pos {α : Type} {zs : List α} {n : Int} {z : α} (hn : 0 ≤ n) (e : zs[n.toNat]? = some z) : atI zs n = some z := by
  have h := atI_nat e
  rw [Int.toNat_of_nonneg hn] at h
  exact h
theorem w_ixN {n : Int} (h : H a = some (.lst xs)) (hn : 0 ≤ n) (e : xs[n.toNat]? = some v) (k : Q v H) : rIxU K (.ref a) (.int n) H Q := .inl ⟨xs, n, v, rfl, .inl (.of h), atI_pos hn e, k⟩
theorem w_ixNT {n : Int} (h : H a = some (.tup xs)) (hn : 0 ≤ n) (e : xs[n.toNat]? = some v) (k : Q v H) : rIxU K (.ref a) (.int n) H Q := .inl ⟨xs, n, v, rfl, .inr (.of h), atI_pos hn e, k⟩
theorem w_ixM {n : Int} (h : H a = some (.lst xs)) (hn : 0 ≤ n) (h1 : n < xs.length) (k : ∀ v ∈ xs, Q v H) : rIxU K (.ref a) (.int n) H Q := by
  have hl : n.toNat < xs.length := by omega
  exact w_ixN h hn (List.getElem?_eq_getElem hl) (k _ (List.getElem_mem hl))
theorem w_ixMS {z : Str} {n : Int} (hz : z.length ≤ 1000000) (hn : 0 ≤ n) (h1 : n < z.length) (k : ∀ c ∈ z.cps.toList, Q (.str ⟨#[c]⟩) H) : rIxU K (.str z) (.int n) H Q := by
  have hl : n.toNat < z.cps.toList.length := by
    have e : z.cps.toList.length = z.length := by simp [Str.length]
    omega
  exact ⟨n, _, rfl, Nat.le_trans hz (by decide), atI_pos hn (List.getElem?_eq_getElem hl), k _ (List.getElem_mem hl)⟩
theorem w_ixT {n : Int} (h : H a = some (.tup xs)) (e : atI xs n = some v) (k : Q v H) : rIxU K (.ref a) (.int n) H Q := .inl ⟨xs, n, v, rfl, .inr (.of h), e, k⟩
theorem w_ixS {z : Str} {n : Int} {c : Nat} (hz : z.length ≤ 1000000) (e : atI z.cps.toList n = some c) (k : Q (.str ⟨#[c]⟩) H) : rIxU K (.str z) (.int n) H Q := ⟨n, c, rfl, Nat.le_trans hz (by decide), e, k⟩
theorem w_ixD {kvs : List (Key × V)} {q : Key} (h : H a = some (.dK kvs)) (hq : y = kV q) (e : valV kvs q = some v) (k : Q v H) : rIxU K (.ref a) y H Q := .inr ⟨v, by rw [hq, ← e]; exact .k h, k⟩
def kFld (K : PySem.W.Frag) (f : Str) (Q : VK) : V → Hp → Prop := fun x H1 => ∃ a C dx fs v, x = .ref a ∧ H1 a = some (.ins C dx fs) ∧ Cls K C ∧ NoAttr K C f ∧ fs.lookup f = some v ∧ Q v H1
theorem w_fld {f : Str} (k : ta σ H (kFld K f Q)) : tFld K ta f σ H Q := k
theorem w_fldV {C dx : Addr} {fs : List (Str × V)} {f : Str} (h : H a = some (.ins C dx fs)) (hc : Cls K C) (hn : NoAttr K C f) (e : fs.lookup f = some v) (k : Q v H) : kFld K f Q (.ref a) H := ⟨a, C, dx, fs, v, rfl, h, hc, hn, e, k⟩
/-! ### arguments, displays -/
theorem w_nil {R : List V → Hp → Prop} (k : R [] H) : tNil σ H R := k
theorem w_cons {R : List V → Hp → Prop} (k : te σ H fun x H1 => tr σ H1 fun xs H2 => R (x :: xs) H2) : tCons te tr σ H R := k
def kTup (Q : VK) : List V → Hp → Prop := fun xs H1 => xs.length ≤ sizeLine ∧ ∀ p, H1 p = none → Q (.ref p) (upd H1 p (.tup xs))
def kLst (Q : VK) : List V → Hp → Prop := fun xs H1 => xs.length ≤ sizeLine ∧ ∀ p, H1 p = none → Q (.ref p) (upd H1 p (.lst xs))
theorem w_tup (k : tr σ H (kTup Q)) : tTup tr σ H Q := k
theorem w_lst (k : tr σ H (kLst Q)) : tLst tr σ H Q := k
theorem w_newT (S : Sat H As) (hz : xs.length ≤ 1000) (k : ∀ p H', H p = none → Sat H' (sh p (.tup xs) :: As) → Q (.ref p) H') : kTup Q xs H :=
  ⟨Nat.le_trans hz (by decide), fun p hp => k p _ hp (S.newS hp)⟩
theorem w_newL (S : Sat H As) (hz : xs.length ≤ 1000) (k : ∀ p H', H p = none → Sat H' (pts p (.lst xs) :: As) → Q (.ref p) H') : kLst Q xs H :=
  ⟨Nat.le_trans hz (by decide), fun p hp => k p _ hp (S.new hp)⟩
theorem w_newLS (S : Sat H As) (hz : xs.length ≤ 1000) (k : ∀ p H', H p = none → Sat H' (sh p (.lst xs) :: As) → Q (.ref p) H') : kLst Q xs H :=
  ⟨Nat.le_trans hz (by decide), fun p hp => k p _ hp (S.newS hp)⟩
/-- a new list that is read and then forgotten -/
theorem w_newLX (S : Sat H As) (hz : xs.length ≤ 1000) (k : ∀ p H', Sat H' As → H' p = some (.lst xs) → Q (.ref p) H') : kLst Q xs H :=
  ⟨Nat.le_trans hz (by decide), fun p hp => k p _ (S.newS (o := .lst xs) hp).drop upd_same⟩
theorem w_newO {o : HO} (S : Sat H As) (k : ∀ p H', H p = none → Sat H' (pts p o :: As) → Q (.ref p) H') : ∀ p, H p = none → Q (.ref p) (upd H p o) := fun p hp => k p _ hp (S.new hp)
theorem w_newU {o : HO} (S : Sat H As) (k : ∀ p H', H p = none → Sat H' (sh p o :: As) → Q (.ref p) H') : ∀ p, H p = none → Q (.ref p) (upd H p o) := fun p hp => k p _ hp (S.newS hp)
def EachP (p : V → Prop) : List V → Prop
  | [] => True
  | x :: xs => p x ∧ EachP p xs
theorem EachP.of {p : V → Prop} : ∀ {xs : List V}, EachP p xs → ∀ v ∈ xs, p v
  | _ :: _, ⟨h, _⟩, _, .head _ => h
  | _ :: _, ⟨_, h⟩, v, .tail _ m => EachP.of h v m
/-- one of the list's: what all have -/
theorem w_ixP {n : Int} (p : V → Prop) (h : H a = some (.lst xs)) (hn : 0 ≤ n) (h1 : n < xs.length) (hp : EachP p xs) (k : ∀ v, p v → Q v H) : rIxU K (.ref a) (.int n) H Q :=
  w_ixM h hn h1 fun v hv => k v (hp.of v hv)
abbrev isI (lo hi : Int) (v : V) : Prop := ∃ i : Int, v = .int i ∧ lo ≤ i ∧ i ≤ hi
/-! ### calls of built-ins, methods -/
theorem w_cb {r : List V → Hp → VK → Prop} (k : tr σ H fun vs H1 => r vs H1 Q) : tCB r tr σ H Q := k
theorem w_call {sp : Sp} {dvs : List V} {E : XK} (k : tr σ H fun vs H1 => sp (vs ++ dvs) H1 Q E) : tCall sp dvs E tr σ H Q := k
theorem w_callS {sp : Sp} {E : L2.St → XK} (k : tr σ H fun vs H1 => sp vs H1 Q (E σ)) : tCallS sp E tr σ H Q := k
theorem w_app {sp : Sp} {vs : List V} {E : XK} (k : sp vs H Q E) : sp (vs ++ []) H Q E := by
  rw [List.append_nil]
  exact k
theorem w_abs {n : Int} (k : Q (.int (if n < 0 then -n else n)) H) : rAbsU [.int n] H Q := k
theorem w_max {m n : Int} (k : Q (.int (if n > m then n else m)) H) : rMax2U [.int m, .int n] H Q := k
theorem w_min {m n : Int} (k : Q (.int (if n < m then n else m)) H) : rMin2U [.int m, .int n] H Q := k
/-! ### tests -/
def tTruU (K : PySem.W.Frag) (ta : TE) : TT := fun σ H Q => ta σ H fun x H' => ∃ k, TruV K x H' k ∧ Q k H'
def kBl (R : Bool → Hp → Prop) : V → Hp → Prop := fun x H1 => ∃ b, x = .bl b ∧ R b H1
def kTru (K : PySem.W.Frag) (R : Bool → Hp → Prop) : V → Hp → Prop := fun x H1 => ∃ b, TruV K x H1 b ∧ R b H1
theorem w_test {R : Bool → Hp → Prop} (k : te σ H (kBl R)) : tTest te σ H R := k
theorem w_tB {R : Bool → Hp → Prop} (k : te σ H (kBl R)) : tB te σ H R := k
theorem w_bl {b : Bool} {R : Bool → Hp → Prop} (k : R b H) : kBl R (.bl b) H := ⟨b, rfl, k⟩
theorem w_tru {R : Bool → Hp → Prop} (k : te σ H (kTru K R)) : tTruU K te σ H R := k
theorem w_truB {b : Bool} {R : Bool → Hp → Prop} (k : R b H) : kTru K R (.bl b) H := ⟨b, rfl, k⟩
theorem w_truI {n : Int} {R : Bool → Hp → Prop} (k : R (n != 0) H) : kTru K R (.int n) H := ⟨_, rfl, k⟩
theorem w_truN {R : Bool → Hp → Prop} (k : R false H) : kTru K R .non H := ⟨_, rfl, k⟩
theorem w_truL {R : Bool → Hp → Prop} (h : H a = some (.lst xs)) (k : R (!xs.isEmpty) H) : kTru K R (.ref a) H := ⟨_, .inl ⟨xs, .of h, rfl⟩, k⟩
theorem w_tyes {R : Bool → Hp → Prop} (k : R true H) : tYes σ H R := k
theorem w_and {R : Bool → Hp → Prop} (k : t σ H fun b H1 => if b = true then u σ H1 R else R false H1) : tAnd t u σ H R := k
theorem w_or {R : Bool → Hp → Prop} (k : t σ H fun b H1 => if b = true then R true H1 else u σ H1 R) : tOr t u σ H R := k
theorem w_not {R : Bool → Hp → Prop} (k : t σ H fun b H1 => R (!b) H1) : tNot t σ H R := k
theorem w_if (k : t σ H fun b H1 => if b = true then ta σ H1 Q else tb σ H1 Q) : tIf t ta tb σ H Q := k
def kAndT (K : PySem.W.Frag) (tb : TE) (σ : L2.St) (Q : VK) : V → Hp → Prop := fun x H1 => ∃ b, TruV K x H1 b ∧ if b = true then tb σ H1 Q else Q x H1
def kOrT (K : PySem.W.Frag) (tb : TE) (σ : L2.St) (Q : VK) : V → Hp → Prop := fun x H1 => ∃ b, TruV K x H1 b ∧ if b = true then Q x H1 else tb σ H1 Q
def kNotT (K : PySem.W.Frag) (Q : VK) : V → Hp → Prop := fun x H1 => ∃ b, TruV K x H1 b ∧ Q (.bl (!b)) H1
theorem w_andT (k : ta σ H (kAndT K tb σ Q)) : tAndT K ta tb σ H Q := k
theorem w_andB {b : Bool} (k : if b = true then tb σ H Q else Q (.bl b) H) : kAndT K tb σ Q (.bl b) H := ⟨b, rfl, k⟩
theorem w_orB {b : Bool} (k : if b = true then Q (.bl b) H else tb σ H Q) : kOrT K tb σ Q (.bl b) H := ⟨b, rfl, k⟩
theorem w_notB' {b : Bool} (k : Q (.bl (!b)) H) : kNotT K Q (.bl b) H := ⟨b, rfl, k⟩
theorem w_orT (k : ta σ H (kOrT K tb σ Q)) : tOrT K ta tb σ H Q := k
theorem w_notT (k : ta σ H (kNotT K Q)) : tNotT K ta σ H Q := k
theorem w_iteT {A B : Prop} (k : A) : if true = true then A else B := by rw [if_pos rfl]; exact k
theorem w_iteF {A B : Prop} (k : B) : if false = true then A else B := by rw [if_neg Bool.false_ne_true]; exact k
theorem w_iteNT {A B : Prop} (k : B) : if (!true) = true then A else B := w_iteF k
theorem w_iteNF {A B : Prop} (k : A) : if (!false) = true then A else B := w_iteT k
theorem w_ite {P A B : Prop} [Decidable P] (h1 : P → A) (h2 : ¬ P → B) : if decide P = true then A else B := by
  by_cases h : P
  · rw [decide_eq_true h]
    exact w_iteT (h1 h)
  · rw [decide_eq_false h]
    exact w_iteF (h2 h)
theorem w_iteN {P A B : Prop} [Decidable P] (h1 : ¬ P → A) (h2 : P → B) : if (!decide P) = true then A else B := by
  by_cases h : P
  · rw [decide_eq_true h]
    exact w_iteF (h2 h)
  · rw [decide_eq_false h]
    exact w_iteT (h1 h)
theorem w_iteB {b : Bool} {A B : Prop} (h1 : b = true → A) (h2 : b = false → B) : if b = true then A else B := by
  cases b with
  | true => exact w_iteT (h1 rfl)
  | false => exact w_iteF (h2 rfl)
theorem w_yes {P A B : Prop} [Decidable P] (h : P) (k : A) : if decide P = true then A else B := w_ite (fun _ => k) fun n => absurd h n
theorem w_no {P A B : Prop} [Decidable P] (h : ¬ P) (k : B) : if decide P = true then A else B := w_ite (fun y => absurd y h) fun _ => k
theorem w_yesN {P A B : Prop} [Decidable P] (h : ¬ P) (k : A) : if (!decide P) = true then A else B := w_iteN (fun _ => k) fun y => absurd y h
theorem w_noN {P A B : Prop} [Decidable P] (h : P) (k : B) : if (!decide P) = true then A else B := w_iteN (fun n => absurd h n) fun _ => k
theorem w_yesB {b : Bool} {A B : Prop} (h : b = true) (k : A) : if b = true then A else B := w_iteB (fun _ => k) fun q => by rw [h] at q; cases q
theorem w_noB {b : Bool} {A B : Prop} (h : b = false) (k : B) : if b = true then A else B := w_iteB (fun q => by rw [h] at q; cases q) fun _ => k
def kCh (r' : R2) (tc : TE) (σ : L2.St) (y : V) (Q : VK) : V → Hp → Prop := fun z H3 => ∃ b, z = .bl b ∧ if b = true then tc σ H3 fun w H4 => r' y w H4 Q else Q (.bl false) H3
theorem w_chain {r r' : R2} (k : ta σ H fun x H1 => tb σ H1 fun y H2 => r x y H2 (kCh r' tc σ y Q)) : tChain r r' ta tb tc σ H Q := k
theorem w_chB {r' : R2} {b : Bool} (k : if b = true then tc σ H fun w H4 => r' y w H4 Q else Q (.bl false) H) : kCh r' tc σ y Q (.bl b) H := ⟨b, rfl, k⟩
/-! ### statements -/
theorem w_seq (k : tu { D with nx := tz D } σ H) : tSeq tu tz D σ H := k
theorem w_next (k : D.nx σ H) : tNext D σ H := k
theorem w_asg {g : TG} (k : te σ H fun x H1 => g x σ H1 D.nx) : tAsg te g D σ H := k
theorem w_name {R : L2.St → Hp → Prop} (k : R (σ.set i (some v)) H) : gName i v σ H R := k
theorem w_ifS (k : t σ H fun b H1 => if b = true then tu D σ H1 else tw D σ H1) : tIfS t tu tw D σ H := k
theorem w_ret (k : te σ H D.rt) : tRet te D σ H := k
theorem w_retN (k : D.rt .non H) : tRetN D σ H := k
theorem w_drop (k : te σ H fun _ H1 => D.nx σ H1) : tDrop te D σ H := k
theorem w_break (k : D.bk σ H) : tBreak D σ H := k
theorem w_cont (k : D.ct σ H) : tCont D σ H := k
theorem w_gsub {to ti : TE} {s : TSet} {R : L2.St → Hp → Prop} (k : to σ H fun o H1 => ti σ H1 fun i H2 => s o i v H2 fun H3 => R σ H3) : gSub to ti s v σ H R := k
theorem w_setL {j : Nat} {n : Int} {R : Hp → Prop} (S : Sat H As) (i : Nat) (e : As[i]? = some (pts a (.lst xs))) (hj : ixN xs.length n = some j) (k : ∀ H', Sat H' (As.set i (pts a (.lst (xs.set j v)))) → R H') : rSetU (.ref a) (.int n) v H R :=
  ⟨a, rfl, .inl ⟨xs, n, j, rfl, S.get i e, hj, k _ (S.set i _ e)⟩⟩
theorem w_setN {n : Int} {R : Hp → Prop} (S : Sat H As) (i : Nat) (e : As[i]? = some (pts a (.lst xs))) (hn : 0 ≤ n) (h1 : n.toNat < xs.length) (k : ∀ H', Sat H' (As.set i (pts a (.lst (xs.set n.toNat v)))) → R H') : rSetU (.ref a) (.int n) v H R := by
  refine w_setL S i e ?_ k
  unfold ixN
  rw [if_pos hn, if_pos (by omega)]
theorem w_setD {kvs : List (Key × V)} {q : Key} {R : Hp → Prop} (S : Sat H As) (i : Nat) (e : As[i]? = some (pts a (.dK kvs))) (hq : y = kV q) (hz : kvs.length < sizeLine) (k : ∀ H', Sat H' (As.set i (pts a (.dK (putK kvs q v)))) → R H') : rSetU (.ref a) y v H R :=
  ⟨a, rfl, .inr ⟨_, by rw [hq]; exact .k (S.get i e) hz, k _ (S.set i _ e)⟩⟩
theorem w_append (S : Sat H As) (i : Nat) (e : As[i]? = some (pts a (.lst xs))) (hz : xs.length < sizeLine) (k : ∀ H', Sat H' (As.set i (pts a (.lst (xs ++ [y])))) → Q .non H') : rAppend (.ref a) [y] H Q :=
  ⟨a, xs, y, rfl, rfl, S.get i e, hz, k _ (S.set i _ e)⟩
def kMeth (C : Addr) (m : Str) (sp : Sp) (E : XK) (t : TA) (σ : L2.St) (Q : VK) : V → Hp → Prop := fun x H1 => ∃ a dx fs, x = .ref a ∧ H1 a = some (.ins C dx fs) ∧ fs.lookup m = none ∧ t σ H1 fun vs H2 => sp (x :: (vs ++ [])) H2 Q E
theorem w_meth {C : Addr} {m : Str} {sp : Sp} {E : XK} (k : ta σ H (kMeth C m sp E tr σ Q)) : tMeth C m sp [] E ta tr σ H Q := k
theorem w_methV {C dx : Addr} {m : Str} {sp : Sp} {E : XK} {fs : List (Str × V)} (h : H a = some (.ins C dx fs)) (hn : fs.lookup m = none) (k : tr σ H fun vs H2 => sp (.ref a :: (vs ++ [])) H2 Q E) : kMeth C m sp E tr σ Q (.ref a) H := ⟨a, dx, fs, rfl, h, hn, k⟩
theorem w_appM {sp : Sp} {vs : List V} {E : XK} (k : sp (x :: vs) H Q E) : sp (x :: (vs ++ [])) H Q E := by
  rw [List.append_nil]
  exact k
def kTy (K : PySem.W.Frag) (T : String) (r : V → List V → Hp → VK → Prop) (tr : TA) (σ : L2.St) (Q : VK) : V → Hp → Prop := fun x H1 => tyV K T x H1 ∧ tr σ H1 fun xs H2 => r x xs H2 Q
theorem w_bm {T : String} {r : V → List V → Hp → VK → Prop} (k : ta σ H (kTy K T r tr σ Q)) : tBM K T r ta tr σ H Q := k
theorem w_tyL {r : V → List V → Hp → VK → Prop} (h : H a = some (.lst xs)) (k : tr σ H fun ys H2 => r (.ref a) ys H2 Q) : kTy K "list" r tr σ Q (.ref a) H := ⟨.inl ⟨rfl, xs, .of h⟩, k⟩
theorem w_tyS {r : V → List V → Hp → VK → Prop} {z : Str} (k : tr σ H fun ys H2 => r (.str z) ys H2 Q) : kTy K "str" r tr σ Q (.str z) H := ⟨rfl, k⟩
def kFldS (K : PySem.W.Frag) (f : Str) (y : V) (R : Hp → Prop) : V → Hp → Prop := fun x H2 => ∃ a C dx fs, x = .ref a ∧ H2 a = some (.ins C dx fs) ∧ Cls K C ∧ NoAttr K C f ∧ fs.length < 1000 ∧ R (upd H2 a (.ins C dx (putF f y fs)))
theorem w_fldS {f : Str} (k : tb σ H fun y H1 => ta σ H1 (kFldS K f y (D.nx σ))) : sFld K ta tb f D σ H := k
theorem w_fldP {C dx : Addr} {fs : List (Str × V)} {f : Str} {R : Hp → Prop} (S : Sat H As) (i : Nat) (e : As[i]? = some (pts a (.ins C dx fs))) (hc : Cls K C) (hn : NoAttr K C f) (hz : fs.length < 1000) (k : ∀ H', Sat H' (As.set i (pts a (.ins C dx (putF f y fs)))) → R H') : kFldS K f y R (.ref a) H :=
  ⟨a, C, dx, fs, rfl, S.get i e, hc, hn, hz, k _ (S.set i _ e)⟩
theorem w_cut {t u : TS} (M : L2.St → Hp → Prop) (h : t { D with nx := M } σ H) (k : ∀ σ' H', M σ' H' → u D σ' H') : C8.tCut t u D σ H := ⟨M, h, k⟩
/-- the clause 'except x as n' takes it -/
theorem w_as {K : PySem.W.Frag} {c cls : Value} {i : Nat} {ts : Addr → Value → Option Addr → TS} {Wout : WX} {D : Ends} {d : Option Addr} (e : PySem.W.exmOne K cls c = some true)
    (k : ∀ a, H a = none → ts a cls d { nx := fun σ' H' => D.nx (σ'.set i none) H', rt := D.rt, bk := fun σ' H' => D.bk (σ'.set i none) H', ct := fun σ' H' => D.ct (σ'.set i none) H' } (σ.set i (some (.ref a))) H) : wAs K c i ts Wout D cls d σ H :=
  ⟨true, e, fun _ => k, fun h => nomatch h⟩
/-! ### slices -/
theorem w_sl {r : V → Option Int → Option Int → Hp → VK → Prop} {tl th : TO} (k : te σ H fun x H1 => tl σ H1 fun l H2 => th σ H2 fun u H3 => r x l u H3 Q) : tSl r te tl th σ H Q := k
def kInt (R : Option Int → Hp → Prop) : V → Hp → Prop := fun x H1 => ∃ n, x = .int n ∧ R (some n) H1
theorem w_part {R : Option Int → Hp → Prop} (k : te σ H (kInt R)) : tPart te σ H R := k
theorem w_int {n : Int} {R : Option Int → Hp → Prop} (k : R (some n) H) : kInt R (.int n) H := ⟨n, rfl, k⟩
theorem w_noPart {R : Option Int → Hp → Prop} (k : R none H) : tNoPart σ H R := k
theorem w_slS {z : Str} {lo hi : Option Int} (hz : z.length ≤ 1000000) (k : Q (.str (Txt.slice z lo hi)) H) : rSlU K (.str z) lo hi H Q := ⟨Nat.le_trans hz (by decide), k⟩
theorem w_slL {lo hi : Option Int} (h : H a = some (.lst xs)) (k : ∀ p, H p = none → Q (.ref p) (upd H p (.lst (cutV xs lo hi)))) : rSlU K (.ref a) lo hi H Q := .inl ⟨xs, .of h, k⟩
/-! ### len -/
theorem w_lenL (h : H a = some (.lst xs)) (k : Q (.int xs.length) H) : rLenU K [.ref a] H Q := ⟨_, rfl, .inl ⟨_, .inl ⟨xs, .of h, rfl⟩, k⟩⟩
theorem w_lenT (h : H a = some (.tup xs)) (k : Q (.int xs.length) H) : rLenU K [.ref a] H Q := ⟨_, rfl, .inl ⟨_, .inr ⟨xs, .of h, rfl⟩, k⟩⟩
theorem sz {n : Nat} (h : n ≤ 1000000) : n ≤ sizeLine := Nat.le_trans h (by decide)
theorem w_lenS {z : Str} (hz : z.length ≤ 1000000) (k : Q (.int z.length) H) : rLenU K [.str z] H Q := ⟨_, rfl, .inl ⟨_, ⟨sz hz, rfl⟩, k⟩⟩
theorem w_lenD {kvs : List (Key × V)} (h : H a = some (.dK kvs)) (k : Q (.int kvs.length) H) : rLenU K [.ref a] H Q := ⟨_, rfl, .inr ⟨a, kvs, rfl, h, k⟩⟩
/-! ### walks -/
def kFor (g : TG) (tb : TS) (D : Ends) (σ : L2.St) (J : It) (H1 : Hp) : Prop := ∃ W : Nat → Nat → L2.St → Hp → Prop, (∃ m, W 0 m σ H1) ∧ ∀ i m σ H, W i m σ H →
  (J.stop i H ∧ D.nx σ H) ∨ (J.go i H ∧ ∃ N : L2.St → Hp → Prop, (∀ σ' H', N σ' H' → ∃ m', m' < m ∧ W (i + 1) m' σ' H') ∧ ∀ x H', J.yld i H x H' → g x σ H' fun σ2 H2 => tb { D with nx := N, ct := N, bk := D.nx } σ2 H2)
def kLc (g : TG) (tt : TT) (te : TE) (vs : List Nat) (σ : L2.St) (Q : VK) (J : It) (H1 : Hp) : Prop := ∀ D, H1 D = none → ∃ W : Nat → Nat → Hp → Prop, (∃ m, W 0 m (upd H1 D (.lst []))) ∧ ∀ i m H, W i m H →
  (J.stop i H ∧ Q (.ref D) H) ∨ (J.go i H ∧ ∃ Nx : Hp → Prop, (∀ H', Nx H' → ∃ m', m' < m ∧ W (i + 1) m' H') ∧ ∀ x H', J.yld i H x H' → g x (wipe σ vs) H' fun σ2 H2 => wipe σ2 vs = wipe σ vs ∧ tt σ2 H2 fun b H3 =>
    if b = true then te σ2 H3 fun y H4 => ∃ acc, H4 D = some (.lst acc) ∧ acc.length < sizeLine ∧ Nx (upd H4 D (.lst (acc ++ [y]))) else Nx H3)
theorem w_for {wi : TI} {g : TG} (k : wi σ H (kFor g tu D σ)) : tFor wi g tu D σ H := k
theorem w_lc {wi : TI} {g : TG} {vs : List Nat} (k : wi σ H (kLc g t te vs σ Q)) : tLc wi g t te vs σ H Q := k
theorem w_forK {J : It} {n : Nat} {G : Hp → Prop} {Y : Nat → Hp → V → Hp → Prop} {g : TG} (w : L2.Walk J n G Y) (Pv : Nat → L2.St → Hp → Prop) (h0 : Pv 0 σ H) (hG : ∀ i σ H, i ≤ n → Pv i σ H → G H)
    (hs : ∀ i x σ H H', i < n → Pv i σ H → Y i H x H' → g x σ H' fun σ2 H2 => tu { D with nx := Pv (i + 1), ct := Pv (i + 1), bk := D.nx } σ2 H2) (hd : ∀ σ H, Pv n σ H → D.nx σ H) : kFor g tu D σ J H :=
  for_it w Pv h0 hG hs hd
def kEl (D : Addr) (P : List V → Prop) (R : List V → List Res) (i : Nat) : V → Hp → Prop := fun y H4 => ∃ acc, H4 D = some (.lst acc) ∧ acc.length < sizeLine ∧ ∃ acc2, acc2.length ≤ i + 1 ∧ P acc2 ∧ Sat (upd H4 D (.lst (acc ++ [y]))) (pts D (.lst acc2) :: R acc2)
def kSk (D : Addr) (P : List V → Prop) (R : List V → List Res) (i : Nat) (H : Hp) : Prop := ∃ acc, acc.length ≤ i + 1 ∧ P acc ∧ Sat H (pts D (.lst acc) :: R acc)
theorem w_el {D : Addr} {P : List V → Prop} {R : List V → List Res} {acc : List V} (hi : acc.length ≤ i) (hz : i < 100000) (p : P (acc ++ [y])) (S : Sat H (pts D (.lst acc) :: R (acc ++ [y]))) : kEl D P R i y H :=
  ⟨acc, S.read, Nat.lt_of_le_of_lt hi (Nat.lt_of_lt_of_le hz (by decide)), acc ++ [y], by rw [List.length_append, List.length_singleton]; omega, p, S.upd _⟩
theorem w_sk {D : Addr} {P : List V → Prop} {R : List V → List Res} {acc : List V} (hi : acc.length ≤ i) (p : P acc) (S : Sat H (pts D (.lst acc) :: R acc)) : kSk D P R i H := ⟨acc, by omega, p, S⟩
/-- what a turn asks: the test, then the element -/
theorem w_lcK {J : It} {n : Nat} {G : Hp → Prop} {Y : Nat → Hp → V → Hp → Prop} {g : TG} {vs : List Nat} (w : L2.Walk J n G Y) (hn : n ≤ 100000) (Pf : Nat → List V → Prop) (Rf : Nat → List V → List Res) (p0 : Pf 0 []) (S : Sat H (Rf 0 []))
    (hG : ∀ i acc D H, i ≤ n → Sat H (pts D (.lst acc) :: Rf i acc) → G H)
    (hs : ∀ i acc D x H H', i < n → i < 100000 → acc.length ≤ i → Pf i acc → Sat H (pts D (.lst acc) :: Rf i acc) → Y i H x H' → g x (wipe σ vs) H' fun σ2 H2 => wipe σ2 vs = wipe σ vs ∧ t σ2 H2 fun b H3 => if b = true then te σ2 H3 (kEl D (Pf (i + 1)) (Rf (i + 1)) i) else kSk D (Pf (i + 1)) (Rf (i + 1)) i H3)
    (hd : ∀ D acc H, acc.length ≤ n → Pf n acc → Sat H (pts D (.lst acc) :: Rf n acc) → Q (.ref D) H) : kLc g t te vs σ Q J H := by
  intro D hD
  refine lc_it w (fun i H => ∃ acc, acc.length ≤ i ∧ Pf i acc ∧ Sat H (pts D (.lst acc) :: Rf i acc)) ⟨[], Nat.le_refl _, p0, S.new hD⟩ (fun i H hi h => ?_) (fun i x H H' hi h y => ?_) (fun H h => ?_)
  · obtain ⟨acc, _, _, S⟩ := h
    exact hG i acc D H hi S
  · obtain ⟨acc, hl, p, S⟩ := h
    exact hs i acc D x H H' hi (by omega) hl p S y
  · obtain ⟨acc, hl, p, S⟩ := h
    exact hd D acc H hl p S
/-! sources -/
def kSL (K : PySem.W.Frag) (R : It → Hp → Prop) : V → Hp → Prop := fun x H1 => ∃ a, x = .ref a ∧ (∃ xs, SqL K H1 a xs) ∧ R (Itl K a) H1
def kST (K : PySem.W.Frag) (R : It → Hp → Prop) : V → Hp → Prop := fun x H1 => ∃ a, x = .ref a ∧ (∃ xs, SqT K H1 a xs) ∧ R (Itt K a) H1
def kSS (R : It → Hp → Prop) : V → Hp → Prop := fun x H1 => ∃ z, x = .str z ∧ R (Its z) H1
theorem w_slV {R : It → Hp → Prop} (h : H a = some (.lst xs)) (k : R (Itl K a) H) : kSL K R (.ref a) H := ⟨a, rfl, ⟨xs, .of h⟩, k⟩
theorem w_stV {R : It → Hp → Prop} (h : H a = some (.tup xs)) (k : R (Itt K a) H) : kST K R (.ref a) H := ⟨a, rfl, ⟨xs, .of h⟩, k⟩
theorem w_ssV {R : It → Hp → Prop} {z : Str} (k : R (Its z) H) : kSS R (.str z) H := ⟨z, rfl, k⟩
def kR1 (R : It → Hp → Prop) : List V → Hp → Prop := fun vs H1 => ∃ j : Int, vs = [.int j] ∧ -(2 ^ 62) ≤ j ∧ j < 2 ^ 62 ∧ R (Itr 0 j.toNat) H1
theorem w_r1 {R : It → Hp → Prop} (k : tr σ H (kR1 R)) : iRng1 tr σ H R := k
theorem w_r1V {R : It → Hp → Prop} {n : Int} (h0 : 0 ≤ n) (h1 : n ≤ 100000) (k : R (Itr 0 n.toNat) H) : kR1 R [.int n] H := ⟨n, rfl, by omega, by omega, k⟩
/-! the script -/
def scr (K : PySem.W.Frag) (a : Addr) (xs : List V) : Res := fun h => SqL K (fun b => (h b).map (·.1)) a xs
theorem sql_mono {H' : Hp} (e : ∀ b o, H b = some o → H' b = some o) (h : SqL K H a xs) : SqL K H' a xs := by
  rcases h with (h | ⟨o, h⟩) | h
  · exact .inl (.inl (e _ _ h))
  · exact .inl (.inr ⟨o, e _ _ h⟩)
  · exact .inr h
theorem scr_get (S : Sat H (scr K a xs :: As)) : SqL K H a xs := by
  obtain ⟨g, z, y, _⟩ := Parts.cons_iff.mp S
  refine sql_mono (fun b o e => ?_) z
  cases q : g b with
  | none =>
    have e' : (g b).map (·.1) = some o := e
    rw [q] at e'
    cases e'
  | some x =>
    have e' : (g b).map (·.1) = some o := e
    rw [q] at e'
    cases e'
    exact y b _ x.2 q
theorem scr_new (h : SqL K H a xs) : Sat H [scr K a xs] := by
  refine Parts.cons_iff.mpr ⟨fun b => (H b).map fun o => (o, true), sql_mono (fun b o e => ?_) h, fun b o t e => ?_, Parts.nil⟩
  · show ((H b).map fun o => (o, true)).map (·.1) = some o
    rw [e]
    rfl
  · have e' : (H b).map (fun o => (o, true)) = some (o, t) := e
    cases q : H b with
    | none =>
      rw [q] at e'
      cases e'
    | some u =>
      rw [q] at e'
      cases e'
      rfl
theorem w_slQ {lo hi : Option Int} (h : SqL K H a xs) (k : ∀ p, H p = none → Q (.ref p) (upd H p (.lst (cutV xs lo hi)))) : rSlU K (.ref a) lo hi H Q := .inl ⟨xs, h, k⟩
/-! parts chosen, in any order -/
inductive Pick : Res → List Res → List Res → Prop
  | here {A : Res} {As : List Res} : Pick A (A :: As) As
  | there {A B : Res} {As Bs : List Res} : Pick A As Bs → Pick A (B :: As) (B :: Bs)
inductive Sub : List Res → List Res → Prop
  | refl {As : List Res} : Sub As As
  | nil {As : List Res} : Sub [] As
  | skip {A : Res} {As Bs : List Res} : Sub Bs As → Sub Bs (A :: As)
  | cons {A : Res} {As Bs Cs : List Res} : Pick A As Bs → Sub Cs Bs → Sub (A :: Cs) As
theorem Pick.perm {A : Res} {As Bs : List Res} (p : Pick A As Bs) : As.Perm (A :: Bs) := by
  induction p with
  | here => exact .refl _
  | there _ ih => exact (ih.cons _).trans (List.Perm.swap _ _ _)
theorem Sub.parts {As Bs : List Res} (u : Sub Bs As) : ∀ {ok : PH → Prop}, Parts As ok → Parts Bs ok := by
  induction u with
  | refl => exact fun h => h
  | nil => exact fun _ => Parts.nil
  | skip _ ih =>
    intro ok h
    obtain ⟨_, _, _, c⟩ := Parts.cons_iff.mp h
    exact ih (c.imp fun _ z => z.1)
  | cons p _ ih =>
    intro ok h
    obtain ⟨g, a, b, c⟩ := Parts.cons_iff.mp (h.perm p.perm)
    exact Parts.cons_iff.mpr ⟨g, a, b, ih c⟩
theorem Sat.to {Bs : List Res} (S : Sat H As) (u : Sub Bs As) : Sat H Bs := u.parts S
theorem Sat.pick {A : Res} {Bs : List Res} (S : Sat H As) (p : Pick A As Bs) : Sat H (A :: Bs) := Sat.perm S p.perm
end
section
variable {K : PySem.W.Frag} {H : Hp} {σ : L2.St} {xs : List V} {x : V} {a : Addr} {g : TG} {t : TGs} {n : Nat} {Z : L2.St → Hp → Prop}
theorem w_gtup (h : H a = some (.tup xs)) (hl : xs.length = n) (k : t xs σ H Z) : gTup K n t (.ref a) σ H Z := ⟨a, xs, rfl, .of h, hl, k⟩
theorem w_gcons (k : g x σ H fun σ' H' => t xs σ' H' Z) : gCons g t (x :: xs) σ H Z := ⟨x, xs, rfl, k⟩
theorem w_gnil (k : Z σ H) : gNil [] σ H Z := ⟨rfl, k⟩
end
section
variable {H : Hp} {Z : VK} {As : List Res} {xs : List V}
theorem w_nT (S : Sat H As) (k : ∀ p H', H p = none → Sat H' (sh p (.tup xs) :: As) → Z (.ref p) H') (hz : xs.length ≤ 1000 := by exact Nat.le_of_ble_eq_true rfl) : kTup Z xs H := w_newT S hz k
theorem w_nL (S : Sat H As) (k : ∀ p H', H p = none → Sat H' (pts p (.lst xs) :: As) → Z (.ref p) H') (hz : xs.length ≤ 1000 := by exact Nat.le_of_ble_eq_true rfl) : kLst Z xs H := w_newL S hz k
theorem w_nLS (S : Sat H As) (k : ∀ p H', H p = none → Sat H' (sh p (.lst xs) :: As) → Z (.ref p) H') (hz : xs.length ≤ 1000 := by exact Nat.le_of_ble_eq_true rfl) : kLst Z xs H := w_newLS S hz k
end
section
variable {K : PySem.W.Frag} {H : Hp} {Z : VK} {As R : List Res} {xs : List V} {a : Addr} {x y v : V}
theorem p_app (S : Sat H As) (pk : Pick (pts a (.lst xs)) As R) (hz : xs.length < 1000000) (k : ∀ H', Sat H' (pts a (.lst (xs ++ [y])) :: R) → Z .non H') : rAppend (.ref a) [y] H Z :=
  w_append (S.pick pk) 0 rfl (Nat.lt_trans hz (by decide)) k
theorem p_set {n : Int} {Z : Hp → Prop} (S : Sat H As) (pk : Pick (pts a (.lst xs)) As R) (hn : 0 ≤ n) (h1 : n.toNat < xs.length) (k : ∀ H', Sat H' (pts a (.lst (xs.set n.toNat v)) :: R) → Z H') : rSetU (.ref a) (.int n) v H Z :=
  w_setN (S.pick pk) 0 rfl hn h1 k
theorem p_dic {kvs : List (Key × V)} {q : Key} {Z : Hp → Prop} (S : Sat H As) (pk : Pick (pts a (.dK kvs)) As R) (hq : y = kV q) (hz : kvs.length < 1000000) (k : ∀ H', Sat H' (pts a (.dK (putK kvs q v)) :: R) → Z H') : rSetU (.ref a) y v H Z :=
  w_setD (S.pick pk) 0 rfl hq (Nat.lt_trans hz (by decide)) k
theorem p_fld {C dx : Addr} {fs : List (Str × V)} {f : Str} {Z : Hp → Prop} (S : Sat H As) (pk : Pick (pts a (.ins C dx fs)) As R) (hc : Cls K C) (hn : NoAttr K C f) (hz : fs.length < 1000) (k : ∀ H', Sat H' (pts a (.ins C dx (putF f y fs)) :: R) → Z H') : kFldS K f y Z (.ref a) H :=
  w_fldP (S.pick pk) 0 rfl hc hn hz k
end
end Q
/-! D: defs, methods and classes by name. -/
namespace Q
open PySem PySem.Spec PyProof.Rows L2
/-- a def of the module: where it stands, how its arguments bind -/
structure Df (K : PySem.W.Frag) (mg : Str → Option Value) (x : Str) (st : Stmt) (ps : List Str) : Prop where
  ex : ∃ f fd, Fun K x x st f fd ∧ mg x = some (.ref f) ∧ Binds K fd ps []
/-- a method of the class at C -/
structure Md (K : PySem.W.Frag) (C : Addr) (m qual : Str) (st : Stmt) (ps : List Str) : Prop where
  ex : ∃ f fd, Fun K m qual st f fd ∧ Meth K C m f ∧ Binds K fd ps []
/-- a class that is made by its name -/
structure Kd (K : PySem.W.Frag) (mg : Str → Option Value) (x : Str) (C : Addr) (qual : Str) (st : Stmt) (ps : List Str) : Prop where
  ex : ∃ f fd, Fun K "__init__" qual st f fd ∧ Mk K C f ∧ mg x = some (.ref C) ∧ Binds K fd ps []
section
variable (P : Program) (w : World) (K : PySem.W.Frag) (mg : Str → Option Value) (base : Heap) (CX : CXT)
structure Cl (k : Nat) (x : Str) (sp : Sp) : Prop where
  ex : ∃ f fd ps, FnOk P w K mg base CX k f fd ps sp ∧ mg x = some (.ref f) ∧ PySem.W.keepIn K (.ref f) = true ∧ Binds K fd ps []
structure Mm (k : Nat) (C : Addr) (m : Str) (sp : Sp) : Prop where
  ex : ∃ f fd ps, Cls K C ∧ Meth K C m f ∧ FnOk P w K mg base CX k f fd ps sp ∧ Binds K fd ps []
structure Mkd (k : Nat) (x : Str) (C : Addr) (sp : Sp) : Prop where
  ex : ∃ f fd ps, Mk K C f ∧ FnOk P w K mg base CX k f fd ps sp ∧ mg x = some (.ref C) ∧ Binds K fd ps []
end
section
variable {P : Program} {w : World} {K : PySem.W.Frag} {mg : Str → Option Value} {base : Heap} {CX : CXT} {k : Nat} {x m qual : Str} {st : Stmt} {N ps : List Str} {sp sp' : Sp} {C : Addr}
theorem Df.cl (d : Df K mg x st ps) (S : FnScope N ps (defScope st)) (len : ∀ vs H Q E, sp vs H Q E → vs.length = ps.length)
    (hb : ∀ (f : Addr) (cdv : Value) (A : Around) (outer : List Env) (s : Shared) (H : Hp) (vs : List V) (Q : VK) (E : XK), Room k (A.deeper (envOfC x (defScope st) s.heap.objs.size f cdv)) → sp vs H Q E →
      ∃ t, PSs (cxOf CX0 P w K mg base N x (defScope st) f cdv A outer s H E).nox (defBody st) t ∧ t { nx := fun _ H' => Q .non H', rt := Q } (L2.start N vs) H) : Cl P w K mg base CX0 (k + 1) x sp := by
  obtain ⟨f, fd, F, hm, b⟩ := d.ex
  exact ⟨f, fd, ps, F.ok S len (hb f), hm, F.kp, b⟩
theorem Fun.okN {qual : Str} {f : Addr} {fd : FuncData} (F : Fun K x qual st f fd) (S : FnScope N ps (defScope st)) (len : ∀ vs H Q E, sp vs H Q E → vs.length = ps.length)
    (hb : ∀ (cdv : Value) (A : Around) (outer : List Env) (s : Shared) (H : Hp) (vs : List V) (Q : VK) (E : XK), Room k (A.deeper (envOfC qual (defScope st) s.heap.objs.size f cdv)) → sp vs H Q E →
      ∃ t, PSs (cxOf (L2N.CX P w) P w K mg base N qual (defScope st) f cdv A outer s H E) (defBody st) t ∧ t { nx := fun _ H' => Q .non H', rt := Q } (L2.start N vs) H) : FnOk P w K mg base (L2N.CX P w) (k + 1) f fd ps sp := by
  obtain ⟨_, _, _, _, _, _, cdv, _, _, rfl, lk, hcd⟩ := F.ex
  exact fn_of lk hcd S len fun A outer s H vs Q E hr h => hb cdv A outer s H vs Q E hr h
theorem Df.clX (d : Df K mg x st ps) (S : FnScope N ps (defScope st)) (len : ∀ vs H Q E, sp vs H Q E → vs.length = ps.length)
    (hb : ∀ (f : Addr) (cdv : Value) (A : Around) (outer : List Env) (s : Shared) (H : Hp) (vs : List V) (Q : VK) (E : XK), Room k (A.deeper (envOfC x (defScope st) s.heap.objs.size f cdv)) → sp vs H Q E →
      ∃ t, PSs (cxOf (L2N.CX P w) P w K mg base N x (defScope st) f cdv A outer s H E) (defBody st) t ∧ t { nx := fun _ H' => Q .non H', rt := Q } (L2.start N vs) H) : Cl P w K mg base (L2N.CX P w) (k + 1) x sp := by
  obtain ⟨f, fd, F, hm, b⟩ := d.ex
  exact ⟨f, fd, ps, Fun.okN F S len (hb f), hm, F.kp, b⟩
theorem Md.mm (d : Md K C m qual st ps) (c : Cls K C) (S : FnScope N ps (defScope st)) (len : ∀ vs H Q E, sp vs H Q E → vs.length = ps.length)
    (hb : ∀ (f : Addr) (cdv : Value) (A : Around) (outer : List Env) (s : Shared) (H : Hp) (vs : List V) (Q : VK) (E : XK), Room k (A.deeper (envOfC qual (defScope st) s.heap.objs.size f cdv)) → sp vs H Q E →
      ∃ t, PSs (cxOf CX0 P w K mg base N qual (defScope st) f cdv A outer s H E).nox (defBody st) t ∧ t { nx := fun _ H' => Q .non H', rt := Q } (L2.start N vs) H) : Mm P w K mg base CX0 (k + 1) C m sp := by
  obtain ⟨f, fd, F, hm, b⟩ := d.ex
  exact ⟨f, fd, ps, c, hm, F.ok S len (hb f), b⟩
theorem Md.mmX (d : Md K C m qual st ps) (c : Cls K C) (S : FnScope N ps (defScope st)) (len : ∀ vs H Q E, sp vs H Q E → vs.length = ps.length)
    (hb : ∀ (f : Addr) (cdv : Value) (A : Around) (outer : List Env) (s : Shared) (H : Hp) (vs : List V) (Q : VK) (E : XK), Room k (A.deeper (envOfC qual (defScope st) s.heap.objs.size f cdv)) → sp vs H Q E →
      ∃ t, PSs (cxOf (L2N.CX P w) P w K mg base N qual (defScope st) f cdv A outer s H E) (defBody st) t ∧ t { nx := fun _ H' => Q .non H', rt := Q } (L2.start N vs) H) : Mm P w K mg base (L2N.CX P w) (k + 1) C m sp := by
  obtain ⟨f, fd, F, hm, b⟩ := d.ex
  exact ⟨f, fd, ps, c, hm, Fun.okN F S len (hb f), b⟩
theorem Kd.mkd (d : Kd K mg x C qual st ps) (S : FnScope N ps (defScope st)) (len : ∀ vs H Q E, sp vs H Q E → vs.length = ps.length)
    (hb : ∀ (f : Addr) (cdv : Value) (A : Around) (outer : List Env) (s : Shared) (H : Hp) (vs : List V) (Q : VK) (E : XK), Room k (A.deeper (envOfC qual (defScope st) s.heap.objs.size f cdv)) → sp vs H Q E →
      ∃ t, PSs (cxOf CX0 P w K mg base N qual (defScope st) f cdv A outer s H E).nox (defBody st) t ∧ t { nx := fun _ H' => Q .non H', rt := Q } (L2.start N vs) H) : Mkd P w K mg base CX0 (k + 1) x C sp := by
  obtain ⟨f, fd, F, hM, hm, b⟩ := d.ex
  exact ⟨f, fd, ps, hM, F.ok S len (hb f), hm, b⟩
theorem Cl.imp (c : Cl P w K mg base CX k x sp) (h : ∀ vs H Q E, sp' vs H Q E → sp vs H Q E) : Cl P w K mg base CX k x sp' := by
  obtain ⟨f, fd, ps, F, a⟩ := c.ex
  exact ⟨f, fd, ps, F.imp h, a⟩
end
section
variable {X : Cx} {CX : CXT} {k j : Nat} {C : Addr} {x m : Str} {sp : Sp} {E : XK} {p pos apos : Pos} {e o : Expr} {es : List Expr} {ta : TE} {t : TA}
theorem pz0 : Passes CX0 X E0 := pass0
theorem pzL : Passes (L2N.CX X.prog X.w) X E0 := fun _ _ _ _ _ _ _ h => by
  obtain ⟨_, _, _, _, _, _, _, _, _, _, _, _, z⟩ := h
  exact z.elim
theorem pzX (tk : L2N.Takes X (fun cls d _ H => E cls d H)) : Passes (L2N.CX X.prog X.w) X E := L2N.passes_call tk fun _ _ _ _ h => h
theorem takesN0 : L2N.Takes X (fun _ _ _ _ => False) := fun _ _ x => by
  obtain ⟨_, _, _, _, _, _, _, _, _, _, _, _, _, _, _, _, z⟩ := x
  exact z.elim
theorem hu65 {A : Around} (r : Room k A) : A.units + 65 < cLine := by have := r.un; omega
theorem pe_cl (c : Cl X.prog X.w X.K X.mg X.base CX k x sp) (hr : Room j X.A) (hk : k ≤ j) (hx : Passes CX X E) (hg : Gl X x) (ha : PA X (e :: es) t)
    (h1 : (x == ("__debug__" : Str)) = false := by decide) (h2 : starEach (e :: es) X.env = (false, eval e X.env) :: starEach es X.env := by rfl) (h3 : (backTo pos (starEach es X.env)).any (·.1) = false := by rfl) : PE X (.Call (.Name x p) (e :: es) [] pos) (tCall sp [] E t) := by
  obtain ⟨f, fd, ps, F, hm, kp, b⟩ := c.ex
  exact pe_call F (hr.mono hk) hg hm kp b .nil hx ha h1 h2 h3
theorem pe_cl0 (c : Cl X.prog X.w X.K X.mg X.base CX k x sp) (hr : Room j X.A) (hk : k ≤ j) (hx : Passes CX X E) (hg : Gl X x)
    (h1 : (x == ("__debug__" : Str)) = false := by decide) : PE X (.Call (.Name x p) [] [] pos) (tCall sp [] E tNil) := by
  obtain ⟨f, fd, ps, F, hm, kp, b⟩ := c.ex
  exact pe_call0 F (hr.mono hk) hg hm kp b .nil hx h1
theorem pe_clS {E : L2.St → XK} (c : Cl X.prog X.w X.K X.mg X.base CX k x sp) (hr : Room j X.A) (hk : k ≤ j) (hx : ∀ σ, PassesAt CX X σ (E σ)) (hg : Gl X x) (ha : PA X (e :: es) t)
    (h1 : (x == ("__debug__" : Str)) = false := by decide) (h2 : starEach (e :: es) X.env = (false, eval e X.env) :: starEach es X.env := by rfl) (h3 : (backTo pos (starEach es X.env)).any (·.1) = false := by rfl) : PE X (.Call (.Name x p) (e :: es) [] pos) (tCallS sp E t) := by
  obtain ⟨f, fd, ps, F, hm, kp, b⟩ := c.ex
  exact pe_callS F (hr.mono hk) hg hm kp b hx ha h1 h2 h3
theorem pe_mm {pl : Sem Bool} (c : Mm X.prog X.w X.K X.mg X.base CX k C m sp) (hr : Room j X.A) (hk : k ≤ j) (hx : Passes CX X E) (he : PE X o ta) (ha : PA X (e :: es) t)
    (h2 : starEach (e :: es) X.env = (false, eval e X.env) :: starEach es X.env := by rfl) (h3 : (backTo pos (starEach es X.env)).any (·.1) = false := by rfl)
    (ht : eval (.Call (.Attribute o m apos) (e :: es) [] pos) X.env = (do let v ← eval o X.env; standAt apos.atName; let (f, first) ← holding [v] (getMethod v m pl); callWith pos f first (backTo pos (starEach (e :: es) X.env)) (backToKw pos (keywordEach [] X.env))) := by rfl) :
    PE X (.Call (.Attribute o m apos) (e :: es) [] pos) (tMeth C m sp [] E ta t) := by
  obtain ⟨f, fd, ps, hc, hm, F, b⟩ := c.ex
  exact pe_meth (pl := pl) he hc hm F (hr.mono hk) b .nil hx ha h2 h3 ht
theorem pe_mm0 {pl : Sem Bool} (c : Mm X.prog X.w X.K X.mg X.base CX k C m sp) (hr : Room j X.A) (hk : k ≤ j) (hx : Passes CX X E) (he : PE X o ta)
    (ht : eval (.Call (.Attribute o m apos) [] [] pos) X.env = (do let v ← eval o X.env; standAt apos.atName; let (f, first) ← holding [v] (getMethod v m pl); callWith pos f first (backTo pos (starEach [] X.env)) (backToKw pos (keywordEach [] X.env))) := by rfl) :
    PE X (.Call (.Attribute o m apos) [] [] pos) (tMeth C m sp [] E ta tNil) := by
  obtain ⟨f, fd, ps, hc, hm, F, b⟩ := c.ex
  exact pe_meth0 (pl := pl) he hc hm F (hr.mono hk) b .nil hx ht
theorem pe_mk (c : Mkd X.prog X.w X.K X.mg X.base CX k x C sp) (hr : Room j X.A) (hk : k + 1 ≤ j) (hx : Passes CX X E) (hg : Gl X x) (ha : PA X (e :: es) t)
    (h1 : (x == ("__debug__" : Str)) = false := by decide) (h2 : starEach (e :: es) X.env = (false, eval e X.env) :: starEach es X.env := by rfl) (h3 : (backTo pos (starEach es X.env)).any (·.1) = false := by rfl) : PE X (.Call (.Name x p) (e :: es) [] pos) (tMake C sp [] E t) := by
  obtain ⟨f, fd, ps, M, F, hm, b⟩ := c.ex
  exact pe_make M F (hr.mono hk) hg hm b .nil hx ha h1 h2 h3
theorem pe_mk0 (c : Mkd X.prog X.w X.K X.mg X.base CX k x C sp) (hr : Room j X.A) (hk : k + 1 ≤ j) (hx : Passes CX X E) (hg : Gl X x)
    (h1 : (x == ("__debug__" : Str)) = false := by decide) : PE X (.Call (.Name x p) [] [] pos) (tMake C sp [] E tNil) := by
  obtain ⟨f, fd, ps, M, F, hm, b⟩ := c.ex
  exact pe_make0 M F (hr.mono hk) hg hm b .nil hx h1
/-- a constant of the module -/
theorem pe_gv {v : V} (hg : Gl X x) (h : ∃ u, X.mg x = some u ∧ RelV v u) (h1 : (x == ("__debug__" : Str)) = false := by decide) : PE X (.Name x pos) (tC v) := by
  obtain ⟨u, hm, r⟩ := h
  exact pe_glob hg hm r h1
/-- an own class, named -/
theorem pe_clsN {c : Addr} (hg : Gl X x) (hm : X.mg x = some (.ref c)) (h1 : (x == ("__debug__" : Str)) = false := by decide) : PE X (.Name x pos) (tC (.ref c)) := pe_glob hg hm rfl h1
theorem pt_truthU {a : Expr} (ha : PE X a ta) (he : ∀ whole, isTrue a X.env whole = (do let v ← whole; standAt a.pos; holding [v] (truthy v))) : PT X a (tTruU X.K ta) := pt_truth ha he
theorem pt_truK {a : Expr} (K : PySem.W.Frag) (ha : PE X a ta) (he : ∀ whole, isTrue a X.env whole = (do let v ← whole; standAt a.pos; holding [v] (truthy v))) (h : X.K = K := by rfl) : PT X a (tTruU K ta) := h ▸ pt_truth ha he
/-- a walk over a list, a tuple or a text -/
def iSeqU (K : PySem.W.Frag) (tl : TE) : TI := fun σ H R => iList K tl σ H R ∨ iTup K tl σ H R ∨ iStr tl σ H R
theorem pi_seqU {tg l : Expr} (hl : PE X l ta) : PI X tg l (iSeqU X.K ta) := by
  refine ⟨fun pins s σ H R I h => ?_⟩
  rcases h with h | h | h
  · exact (pi_list hl).run pins s σ H R I h
  · exact (pi_tup hl).run pins s σ H R I h
  · exact (pi_str hl).run pins s σ H R I h
theorem w_sqL {tl : TE} {K : PySem.W.Frag} {σ : L2.St} {H : Hp} {R : It → Hp → Prop} (k : tl σ H (kSL K R)) : iSeqU K tl σ H R := .inl k
theorem w_sqT {tl : TE} {K : PySem.W.Frag} {σ : L2.St} {H : Hp} {R : It → Hp → Prop} (k : tl σ H (kST K R)) : iSeqU K tl σ H R := .inr (.inl k)
theorem w_sqS {tl : TE} {K : PySem.W.Frag} {σ : L2.St} {H : Hp} {R : It → Hp → Prop} (k : tl σ H (kSS R)) : iSeqU K tl σ H R := .inr (.inr k)
theorem pi_seqK {tg l : Expr} (K : PySem.W.Frag) (hl : PE X l ta) (h : X.K = K := by rfl) : PI X tg l (iSeqU K ta) := h ▸ pi_seqU hl
/-! ### types called -/
def rIntU : List V → Hp → VK → Prop := fun xs H Q => ∃ x, xs = [x] ∧ match x with
  | .int i => Q (.int i) H
  | .bl b => Q (.int (if b then 1 else 0)) H
  | .str a => ∃ n, PySem.intText? a = some n ∧ a.length ≤ 640 ∧ Q (.int n) H
  | _ => False
theorem call_intU : CallR X (.type "int") rIntU := by
  intro pins s σ H xs us Q I r h
  obtain ⟨y, rfl, h⟩ := h
  match y, r, h with
  | .int i, r, h => exact call_int1 pins s σ H _ us Q I r (.inl ⟨i, rfl, h⟩)
  | .bl b, r, h => exact call_int1 pins s σ H _ us Q I r (.inr ⟨b, rfl, h⟩)
  | .str a, r, ⟨n, h1, h2, h⟩ => exact call_int_str pins s σ H _ us Q I r ⟨a, n, rfl, h1, h2, h⟩
def rStrU : List V → Hp → VK → Prop := fun xs H Q => ∃ x, xs = [x] ∧ match x with
  | .int i => i.natAbs.log2 < 1920 ∧ Q (.str (toString i)) H
  | .str a => Q (.str a) H
  | _ => False
theorem call_strU : CallR X (.type "str") rStrU := by
  intro pins s σ H xs us Q I r h
  obtain ⟨y, rfl, h⟩ := h
  match y, r, h with
  | .int i, r, h => exact call_str_int pins s σ H _ us Q I r ⟨i, rfl, h.1, h.2⟩
  | .str a, r, h => exact SkE.call_str_str pins s σ H _ us Q I r ⟨a, rfl, h⟩
def rIsiU (K : PySem.W.Frag) : List V → Hp → VK → Prop := fun xs H Q => rIsi K xs H Q ∨ rIsiT K xs H Q
theorem call_isiU' : CallR X (.builtin "isinstance") (rIsiU X.K) := CallR.or call_isi call_isiT
theorem call_isiU (K : PySem.W.Frag) (h : X.K = K := by rfl) : CallR X (.builtin "isinstance") (rIsiU K) := h ▸ call_isiU'
def rJoinU (K : PySem.W.Frag) : V → List V → Hp → VK → Prop := fun x xs H Q => ∃ a p, ∃ ys : List Str, x = .str a ∧ xs = [.ref p] ∧ (SqL K H p (ys.map V.str) ∨ SqT K H p (ys.map V.str)) ∧ (ys.map (·.length)).sum + ys.length * a.length ≤ 16777216 ∧ Q (.str (Txt.join a ys)) H
theorem mt_joinU (K : PySem.W.Frag) (h : X.K = K := by rfl) : MtR X "str.join" (rJoinU K) := h ▸ mt_join
theorem pe_bmK {T : String} {id : String} {name : Str} {r : V → List V → Hp → VK → Prop} {cpos : Pos} (K : PySem.W.Frag) (pa : PlainAttrs T) (slot : Slot T name id) (hty : typeOf (.builtin id) = pure (.type "method_descriptor")) (hm : MtR X id r) (ho : PE X o ta) (ha : PA X (e :: es) t)
    (h1 : attributeBase o name X.env (eval o X.env) = eval o X.env := by rfl)
    (h2 : ((backTo cpos (starEach (e :: es) X.env)).all (fun x => !x.1) && (backToKw cpos (keywordEach [] X.env)).all (fun x => x.1.isSome) && decide ((e :: es).length + ([] : List Keyword).length + (if ([] : List Keyword).isEmpty then 0 else 1) < 30)) = true := by rfl)
    (h3 : (apos.endLine == cpos.line) = true := by rfl) (h4 : starEach (e :: es) X.env = (false, eval e X.env) :: starEach es X.env := by rfl) (h5 : (backTo cpos (starEach es X.env)).any (·.1) = false := by rfl) (h : X.K = K := by rfl) :
    PE X (.Call (.Attribute o name apos) (e :: es) [] cpos) (tBM K T r ta t) := h ▸ pe_bm pa slot hty hm ho ha h1 h2 h3 h4 h5
theorem pe_bm0K {T : String} {id : String} {name : Str} {r : V → List V → Hp → VK → Prop} {cpos : Pos} (K : PySem.W.Frag) (pa : PlainAttrs T) (slot : Slot T name id) (hty : typeOf (.builtin id) = pure (.type "method_descriptor")) (hm : MtR X id r) (ho : PE X o ta)
    (h1 : attributeBase o name X.env (eval o X.env) = eval o X.env := by rfl) (h3 : (apos.endLine == cpos.line) = true := by rfl) (h : X.K = K := by rfl) :
    PE X (.Call (.Attribute o name apos) [] [] cpos) (tBM0 K T r ta) := h ▸ pe_bm0 pa slot hty hm ho h1 h3
end
end Q
/-! E: own exceptions raised, caught, asked for their class. -/
namespace Q
open PySem PySem.Spec PyProof.Rows L2
abbrev veB : List Value := [.type "ValueError", .type "Exception", .type "BaseException", .type "object"]
/-- an own class over ValueError without an __init__ of its own -/
structure Xc (K : PySem.W.Frag) (mg : Str → Option Value) (x : Str) (C : Addr) : Prop where
  q : PySem.W.excIn K C veB "ValueError.__new__" = true
  g : mg x = some (.ref C)
  k : PySem.W.keepIn K (.ref C) = true
  b : PySem.W.subIn K (.ref C) (.type "BaseException") = some true
  t : PySem.W.typeIn K (.ref C) = some (.type "type")
/-- an own class as kind: what the kit asks -/
structure OwnTy (K : PySem.W.Frag) (C : Addr) : Prop where
  ha : PySem.W.findIn K (.ref C) "__class__" = some (some (.builtin "object.__class__"))
  hn : PySem.W.specialIn K (.builtin "object.__class__") "__get__" = some (some (.builtin "getset_descriptor.__get__"))
  ht : PySem.W.takesIn K (.builtin "object.__class__") = some true
  hm : PySem.W.mroIn K C (.type "object") = some true
section
variable {K : PySem.W.Frag} {S B : Addr} {b : Bool} {t : Value} {T : String}
theorem kit_self : PySem.W.kitOne K (.ref S) (.ref S) = some true := by
  unfold PySem.W.kitOne
  rw [if_pos (beq_self_eq_true _)]
theorem cls_own (h2 : PySem.W.isClsIn K B = true) (h3 : PySem.W.typeIn K (.ref B) = some (.type "type")) (h4 : PySem.W.subIn K t (.ref B) = some b) : PySem.W.kitCls K t (.ref B) = some b := by
  have e2 : ((PySem.W.clsIn K B).isSome && PySem.W.typeIn K (.ref B) == some (.type "type")) = true := by
    have h2' : (PySem.W.clsIn K B).isSome = true := h2
    rw [h2', h3] <;> rfl
  show (if ((PySem.W.clsIn K B).isSome && PySem.W.typeIn K (.ref B) == some (.type "type")) = true then PySem.W.subIn K t (.ref B) else none) = some b
  rw [if_pos e2]
  exact h4
theorem kit_own (h2 : PySem.W.isClsIn K B = true) (h3 : PySem.W.typeIn K (.ref B) = some (.type "type")) (h4 : PySem.W.subIn K t (.ref B) = some b) (ne : (t == .ref B) = false) : PySem.W.kitOne K t (.ref B) = some b := by
  unfold PySem.W.kitOne
  rw [ne, if_neg Bool.false_ne_true]
  exact cls_own h2 h3 h4
theorem kit_ty (h : PySem.W.kitMeta T = true) (h4 : PySem.W.subIn K (.ref S) (.type T) = some b) : PySem.W.kitOne K (.ref S) (.type T) = some b := by
  unfold PySem.W.kitOne
  have ne : ((Value.ref S) == (.type T : Value)) = false := by rfl
  rw [ne, if_neg Bool.false_ne_true]
  show (if PySem.W.kitMeta T = true then PySem.W.subIn K (.ref S) (.type T) else none) = some b
  rw [if_pos h]
  exact h4
theorem exm_own (h1 : PySem.W.subIn K (.ref B) (.type "BaseException") = some true) (h2 : PySem.W.isClsIn K B = true) (h3 : PySem.W.typeIn K (.ref B) = some (.type "type")) (h4 : PySem.W.subIn K t (.ref B) = some b) : PySem.W.exmOne K t (.ref B) = some b := by
  have e1 : (PySem.W.subIn K (.ref B) (.type "BaseException") == some true) = true := by rw [h1] <;> rfl
  unfold PySem.W.exmOne
  rw [if_pos e1]
  exact cls_own h2 h3 h4
theorem kit_no {c : Value} {r : List Value} (h : PySem.W.kitOne K t c = some false) (k : PySem.W.kitAny K t r = some b) : PySem.W.kitAny K t (c :: r) = some b := by
  unfold PySem.W.kitAny
  rw [h]
  exact k
theorem kit_yes {c : Value} {r : List Value} (h : PySem.W.kitOne K t c = some true) : PySem.W.kitAny K t (c :: r) = some true := by
  unfold PySem.W.kitAny
  rw [h]
end
section
variable {X : Cx} {C : Addr} {x m : Str} {W : WX} {H : Hp} {σ : L2.St} {D : Ends}
def tRaise (C : Addr) (W : WX) : TS := fun _ σ H => W (.ref C) none σ H
theorem ps_raiseU {p p2 p3 pos : Pos} {j : Nat} (hc : X.calm = true) (tk : L2N.Takes X W) (T : Xc X.K X.mg x C) (hg : Gl X x) (h1 : (x == ("__debug__" : Str)) = false := by decide) :
    PS X (.Raise (some (.Call (.Name x p) [.Constant (.str m) j p2] [] p3)) none pos) (tRaise C W) :=
  L2N.ps_raise hc tk (L2N.pmk_own PySem.F.excBase_ValueError T.q T.g T.k (raises_own T.b T.t) hg h1)
theorem w_raise (k : W (.ref C) none σ H) : tRaise C W D σ H := k
/-- isinstance(e, c), isinstance(e, (c, ..)): e is pinned, of the class cls, without a dict -/
def rIsX (K : PySem.W.Frag) (cls : Value) (d : Option Addr) (a : Addr) : List V → Hp → VK → Prop := fun xs H Q => ∃ (D : Addr) (c : V), cls = .ref D ∧ d = none ∧ ExcC K D ∧ xs = [.ref a, c] ∧
  ((∃ (cv : Value) (b : Bool), ClsV c cv ∧ PySem.W.kitOne K (.ref D) cv = some b ∧ Q (.bl b) H) ∨
   (∃ (tp : Addr) (cs : List V) (us : List Value) (b : Bool), c = .ref tp ∧ H tp = some (.tup cs) ∧ Paired ClsV cs us ∧ PySem.W.kitAny K (.ref D) us = some b ∧ Q (.bl b) H))
theorem w_isX {K : PySem.W.Frag} {D a : Addr} {c : V} {cv : Value} {b : Bool} {Q : VK} (h : ExcC K D) (p : ClsV c cv) (e : PySem.W.kitOne K (.ref D) cv = some b) (k : Q (.bl b) H) : rIsX K (.ref D) none a [.ref a, c] H Q :=
  ⟨D, _, rfl, rfl, h, rfl, .inl ⟨_, _, p, e, k⟩⟩
theorem w_isXT {K : PySem.W.Frag} {D a tp : Addr} {us : List Value} {cs : List V} {b : Bool} {Q : VK} (h : ExcC K D) (ht : H tp = some (.tup cs)) (p : Paired ClsV cs us) (e : PySem.W.kitAny K (.ref D) us = some b) (k : Q (.bl b) H) : rIsX K (.ref D) none a [.ref a, .ref tp] H Q :=
  ⟨D, _, rfl, rfl, h, rfl, .inr ⟨tp, cs, us, b, rfl, ht, p, e, k⟩⟩
theorem call_isX {a : Addr} {oe : Obj} {cls : Value} {d : Option Addr} (hp : (a, oe) ∈ X.pn) (hz : Zc cls d oe) (hf : ∃ vs, oe.data = .fields vs) : CallR X (.builtin "isinstance") (rIsX X.K cls d a) := by
  intro pins s σ H xs us Q I r h
  obtain ⟨D, c, rfl, rfl, C, rfl, h⟩ := h
  obtain ⟨u1, u2, rfl, r1, r2⟩ := vals2 r
  cases (show u1 = Value.ref a from r1)
  obtain ⟨hget, _⟩ := I.pin (a, oe) (List.mem_append.mpr (.inl hp))
  obtain ⟨vs, hv⟩ := hf
  have J : PySem.W.InstAt s.heap a oe D none := by
    obtain ⟨oc, od, oda, osl⟩ := oe
    obtain ⟨h1, h2⟩ := hz
    dsimp only at h1 h2 hv
    subst h1 h2 hv
    exact ⟨hget, rfl, rfl, trivial⟩
  have Z := PySem.W.handS_kitx_exc (x := a) (ox := oe) C.hg C.hk C.hs C.hd C.ha C.hn C.ht C.hm
  rcases h with ⟨cv, b, k, e, q⟩ | ⟨tp, cs, ws, b, rfl, hT, k, e, q⟩
  · have e2 := k.eq r2
    subst e2
    exact PySem.W.kia_one Z I.kIn J e (fun z => nomatch z) fun tk => ⟨.bl b, H, I.kept (t' := tk) fun _ _ z => z, rfl, q⟩
  · cases (show u2 = Value.ref tp from r2)
    obtain ⟨_, its, rv, o, h1, h2, n, h3⟩ := (show ObjOk X.prog X.w H s.heap tp (.tup cs) from I.hok tp _ hT)
    have e3 := ClsV.all k rv
    subst e3
    obtain ⟨oc, od, dt, sl⟩ := o
    simp only at h2 h3
    subst h2 h3
    exact PySem.W.kia_tup Z I.kIn J h1 e (fun z => nomatch z) fun tk => ⟨.bl b, H, I.kept (t' := tk) fun _ _ z => z, rfl, q⟩
theorem call_isXK {a : Addr} {oe : Obj} {cls : Value} {d : Option Addr} (K : PySem.W.Frag) (hp : (a, oe) ∈ X.pn) (hz : Zc cls d oe) (hf : ∃ vs, oe.data = .fields vs) (h : X.K = K := by rfl) : CallR X (.builtin "isinstance") (rIsX K cls d a) := h ▸ call_isX hp hz hf
end
end Q
open PySem PySem.Spec PyProof.Rows L2 Q
local macro_rules | `(tactic| walk_at "h") => `(tactic| first
  | with_reducible assumption
  | exact c0 (by with_reducible assumption) | exact c1 (by with_reducible assumption) | exact c2 (by with_reducible assumption) | exact c3 (by with_reducible assumption)
  | exact d0 (by with_reducible assumption) | exact d1 (by with_reducible assumption) | exact d2 (by with_reducible assumption) | exact d3 (by with_reducible assumption)
  | exact c4 (by with_reducible assumption) | exact c5 (by with_reducible assumption) | exact c6 (by with_reducible assumption)
  | exact d4 (by with_reducible assumption) | exact d5 (by with_reducible assumption) | exact d6 (by with_reducible assumption))
local macro_rules | `(tactic| walk_at "x") => `(tactic| first
  | ((with_reducible refine' w_var ?h ?_); (case h => exact rfl))
  | (with_reducible refine w_c ?_)
  | (with_reducible refine w_op ?_)
  | (with_reducible refine w_seq ?_)
  | (with_reducible refine w_asg ?_)
  | (with_reducible refine w_name ?_)
  | (with_reducible refine w_cons ?_)
  | (with_reducible refine w_gcons ?_)
  | (with_reducible refine w_gnil ?_)
  | ((with_reducible refine' w_gtup ?h ?e ?_); (case h => walk_at "h"); (case e => rfl))
  | (with_reducible refine w_nil ?_)
  | (with_reducible refine w_ret ?_)
  | (with_reducible refine w_drop ?_)
  | (with_reducible refine Q.w_raise ?_)
  | (with_reducible refine w_retN ?_)
  | (with_reducible refine w_next ?_)
  | (with_reducible refine w_ifS ?_)
  | (with_reducible refine w_test ?_)
  | (with_reducible refine w_tru ?_)
  | (with_reducible refine w_tB ?_)
  | (with_reducible refine w_and ?_)
  | (with_reducible refine w_tyes ?_)
  | (with_reducible refine w_abs ?_)
  | (with_reducible refine w_max ?_)
  | (with_reducible refine w_min ?_)
  | (with_reducible refine w_or ?_)
  | (with_reducible refine w_not ?_)
  | (with_reducible refine w_if ?_)
  | (with_reducible refine w_andT ?_)
  | (with_reducible refine w_orT ?_)
  | (with_reducible refine w_notT ?_)
  | (with_reducible refine w_iteT ?_)
  | (with_reducible refine w_iteF ?_)
  | (with_reducible refine w_iteNT ?_)
  | (with_reducible refine w_iteNF ?_)
  | (with_reducible refine w_bl ?_)
  | (with_reducible refine w_truB ?_)
  | (with_reducible refine w_truI ?_)
  | (with_reducible refine w_int ?_)
  | (with_reducible refine w_call ?_)
  | (with_reducible refine w_callS ?_)
  | (with_reducible refine w_app ?_)
  | (with_reducible refine w_cb ?_)
  | (with_reducible refine w_tup ?_)
  | (with_reducible refine w_lst ?_)
  | (with_reducible refine w_sl ?_)
  | (with_reducible refine w_part ?_)
  | (with_reducible refine w_noPart ?_)
  | (with_reducible refine w_un ?_)
  | (with_reducible refine w_neg ?_)
  | (with_reducible refine w_gsub ?_)
  | (with_reducible refine w_chain ?_)
  | (with_reducible refine w_bm ?_)
  | (with_reducible refine w_fldS ?_)
  | (with_reducible refine w_for ?_)
  | (with_reducible refine w_lc ?_)
  | (with_reducible refine w_r1 ?_)
  | (with_reducible refine w_meth ?_)
  | (with_reducible refine w_appM ?_)
  | (with_reducible refine w_fld ?_)
  | (with_reducible refine w_andB ?_)
  | (with_reducible refine w_orB ?_)
  | (with_reducible refine w_notB' ?_)
  | (with_reducible refine w_chB ?_)
  | (with_reducible refine w_truN ?_)
  | (with_reducible refine w_tyS ?_)
  | ((with_reducible refine' w_tyL ?h ?_); (case h => walk_at "h"))
  | (with_reducible refine w_addI ?_)
  | (with_reducible refine w_sub ?_)
  | ((with_reducible refine' w_mod ?h ?_); (case h => first | decide | omega))
  | (with_reducible refine w_lt ?_)
  | (with_reducible refine w_le ?_)
  | (with_reducible refine w_gt ?_)
  | (with_reducible refine w_ge ?_)
  | (with_reducible refine w_eqI ?_)
  | (with_reducible refine w_eqS ?_)
  | (with_reducible refine w_eqB ?_)
  | (with_reducible refine w_neI ?_)
  | (with_reducible refine w_neS ?_)
  | (with_reducible refine w_neB ?_)
  | (with_reducible refine w_isN ?_)
  | (with_reducible refine w_notN ?_)
  | (with_reducible refine w_isB ?_)
  | (with_reducible refine w_notB ?_)
  | ((with_reducible refine' w_ixN ?h ?z ?e ?_); (case h => walk_at "h"); (case z => first | decide | omega); (case e => first | exact rfl | assumption))
  | ((with_reducible refine' w_ixNT ?h ?z ?e ?_); (case h => walk_at "h"); (case z => first | decide | omega); (case e => first | exact rfl | assumption))
  | ((with_reducible refine' w_ixL ?h ?e ?_); (case h => walk_at "h"); (case e => exact rfl))
  | ((with_reducible refine' w_ixT ?h ?e ?_); (case h => walk_at "h"); (case e => exact rfl))
  | ((with_reducible refine' w_lenS ?h ?_); (case h => first | assumption | omega))
  | ((with_reducible refine' w_slS ?h ?_); (case h => first | assumption | omega))
  | ((with_reducible refine' w_lenL ?h ?_); (case h => walk_at "h"))
  | ((with_reducible refine' w_lenT ?h ?_); (case h => walk_at "h")))
local macro_rules | `(tactic| walk_at "xs") => `(tactic| repeat (walk_at "x"))
local macro_rules | `(tactic| walk_at "i") => `(tactic| (dsimp only [cxOf, Cx.nox, Cx.wish, L2.start, List.map, List.length_cons, List.length_nil, List.replicate, Nat.reduceAdd, Nat.reduceSub, List.cons_append, List.nil_append]))
local macro_rules | `(tactic| walk_at "pick") => `(tactic| first | (with_reducible exact Pick.here) | ((with_reducible apply Pick.there); walk_at "pick"))
local macro_rules | `(tactic| walk_at "s") => `(tactic| first | (with_reducible exact Sub.refl) | (with_reducible exact Sub.nil) | ((with_reducible apply Sub.cons); (walk_at "pick"); walk_at "s") | ((with_reducible apply Sub.skip); walk_at "s"))
/-! T: texts; data in the heap. -/
namespace Q
/-- the signs of a text, each a text -/
def chrs (l : List Nat) : List V := l.map fun c => V.str ⟨#[c]⟩
abbrev tl (z : Str) : List Nat := z.cps.toList
theorem tl_len (z : Str) : (tl z).length = z.length := by simp [Str.length]
theorem tl_app (x y : Str) : tl (x ++ y) = tl x ++ tl y := TL.tl_append x y
theorem str_ext {x y : Str} (h : tl x = tl y) : x = y := TL.ext_tl h
theorem str_eq_iff {x y : Str} : x = y ↔ tl x = tl y := ⟨fun h => by rw [h], str_ext⟩
section
variable {K : PySem.W.Frag} {σ : L2.St} {H : Hp} {Q : VK} {As : List Res} {a b : Addr} {xs ys : List V} {x y : V}
theorem dp_chrs (h : SqL K H a (chrs l)) : Dp K H (.ref a) (.list (l.map fun c => .str ⟨#[c]⟩)) := by
  refine .lst h ?_
  clear h
  unfold chrs
  induction l with
  | nil => exact .nil
  | cons c l ih => exact .cons (.str _) ih
theorem lay_chrs : ∀ l : List Nat, (∀ c ∈ l, c < 1114112) → PyData.canLayAll0 (l.map fun c => .str ⟨#[c]⟩) = true
  | [], _ => rfl
  | c :: l, h => by
    have h1 := lay_chrs l fun d hd => h d (List.mem_cons_of_mem _ hd)
    have h2 := h c List.mem_cons_self
    have e : PyData.canLay0 (.str ⟨#[c]⟩) = true := by
      show (#[c] : Array Nat).all (· < 0x110000) = true
      simp
      exact h2
    show (PyData.canLay0 (.str ⟨#[c]⟩) && PyData.canLayAll0 (l.map fun c => .str ⟨#[c]⟩)) = true
    rw [e, h1]
    rfl
theorem depth_chrs : ∀ l : List Nat, PyData.depthAll (l.map fun c => .str ⟨#[c]⟩) = 0
  | [] => rfl
  | c :: l => by
    show max (PyData.depth (.str ⟨#[c]⟩)) (PyData.depthAll (l.map fun c => .str ⟨#[c]⟩)) = 0
    rw [depth_chrs l]
    rfl
theorem shaped_chrs {l : List Nat} (h : ∀ c ∈ l, c < 1114112) : SeqAt.shaped (.list (l.map fun c => .str ⟨#[c]⟩)) = true := by
  have e1 : PyData.canLay0 (.list (l.map fun c => .str ⟨#[c]⟩)) = true := lay_chrs l h
  have e2 : PyData.depth (.list (l.map fun c => .str ⟨#[c]⟩)) = 1 := by
    show PyData.depthAll _ + 1 = 1
    rw [depth_chrs]
  unfold SeqAt.shaped
  rw [e1, e2]
  rfl
theorem eqv_nil (l : List Nat) : PyData.eqv (.list (l.map fun c => .str ⟨#[c]⟩)) (.list []) = l.isEmpty := by
  cases l <;> rfl
theorem w_neD {d1 d2 : PyData} {r : Bool} (h1 : Dp K H x d1) (h2 : Dp K H y d2) (e : PyData.eqv d1 d2 = r) (s1 : SeqAt.shaped d1 = true) (s2 : SeqAt.shaped d2 = true) (k : Q (.bl (!r)) H) : rNeU K x y H Q := .inr ⟨_, _, h1, h2, s1, s2, by rw [e]; exact k⟩
theorem w_eqD {d1 d2 : PyData} {r : Bool} (h1 : Dp K H x d1) (h2 : Dp K H y d2) (e : PyData.eqv d1 d2 = r) (s1 : SeqAt.shaped d1 = true) (s2 : SeqAt.shaped d2 = true) (k : Q (.bl r) H) : rEqU K x y H Q := .inr ⟨_, _, h1, h2, s1, s2, by rw [e]; exact k⟩
theorem w_isi {n : String} {t : Value} {r : Bool} (ty : TyOf K H x t) (e : PySem.W.kitOne K t (.type n) = some r) (k : Q (.bl r) H) : rIsiU K [x, .ty n] H Q := .inl ⟨x, .ty n, t, .type n, r, rfl, .ty _, .base ty, e, k⟩
/-- [..] == [], != [] of signs -/
theorem w_eqC {l : List Nat} (h : H a = some (.lst (chrs l))) (h0 : H b = some (.lst [])) (hl : ∀ c ∈ l, c < 1114112) (k : Q (.bl l.isEmpty) H) : rEqU K (.ref a) (.ref b) H Q :=
  .inr ⟨_, .list [], dp_chrs (.of h), .lst (.of h0) .nil, shaped_chrs hl, by decide, by rw [eqv_nil]; exact k⟩
theorem w_neC {l : List Nat} (h : H a = some (.lst (chrs l))) (h0 : H b = some (.lst [])) (hl : ∀ c ∈ l, c < 1114112) (k : Q (.bl (!l.isEmpty)) H) : rNeU K (.ref a) (.ref b) H Q :=
  .inr ⟨_, .list [], dp_chrs (.of h), .lst (.of h0) .nil, shaped_chrs hl, by decide, by rw [eqv_nil]; exact k⟩
theorem w_notinS {z : Str} {c : Nat} (k : Q (.bl (!decide (c ∈ tl z))) H) : rInU K true (.str ⟨#[c]⟩) (.str z) H Q := ⟨c, rfl, k⟩
theorem w_inS {z : Str} {c : Nat} (k : Q (.bl (decide (c ∈ tl z))) H) : rInU K false (.str ⟨#[c]⟩) (.str z) H Q := ⟨c, rfl, k⟩
theorem take_succ_of {α : Type} {l : List α} {i : Nat} {x : α} (h : l[i]? = some x) : l.take (i + 1) = l.take i ++ [x] := by
  rw [List.take_succ, h]
  rfl
/-- [sign for sign in y if sign not in z] -/
theorem w_nots {z y : Str} {j : Nat} (hj : j < σ.length) (hl : y.length ≤ 100000) (S : Sat H As)
    (k : ∀ D H', Sat H' (pts D (.lst (chrs ((tl y).filter fun c => !decide (c ∈ tl z)))) :: As) → Q (.ref D) H') :
    kLc (gName j) (tTest (tOp (rInU K true) (tVar j) (tC (.str z)))) (tVar j) [j] σ Q (Its y) H := by
  refine w_lcK walk_str (by have e : y.cps.size = y.length := rfl; omega) (fun i acc => acc = chrs (((tl y).take i).filter fun c => !decide (c ∈ tl z))) (fun _ _ => As) rfl S (fun _ _ _ _ _ _ => trivial) ?_ ?_
  · rintro i acc D x H H' hi hz hl rfl S ⟨rfl, c, hc, rfl⟩
    have hc' : (tl y)[i]? = some c := by
      rw [← hc]
      simp
    have hg : (((wipe σ [j]).set j (some (V.str ⟨#[c]⟩)))[j]?) = some (some (V.str ⟨#[c]⟩)) := by
      rw [List.getElem?_set_self]
      rw [wipe_length]
      exact hj
    refine w_name ⟨?_, ?_⟩
    · show (((σ.set j none).set j (some (V.str ⟨#[c]⟩))).set j none) = σ.set j none
      rw [List.set_set, List.set_set]
    · refine w_test (w_op (w_var hg (w_c (w_notinS (w_bl ?_)))))
      have e : ((tl y).take (i + 1)).filter (fun c => !decide (c ∈ tl z)) = ((tl y).take i).filter (fun c => !decide (c ∈ tl z)) ++ if c ∈ tl z then [] else [c] := by
        rw [take_succ_of hc', List.filter_append]
        by_cases q : c ∈ tl z
        · have d : decide (c ∈ tl z) = true := decide_eq_true q
          rw [if_pos q, List.filter_cons, d]
          rfl
        · have d : decide (c ∈ tl z) = false := decide_eq_false q
          rw [if_neg q, List.filter_cons, d]
          rfl
      refine w_iteN (fun n => ?_) (fun q => ?_)
      · refine w_var hg (w_el hl hz ?_ S)
        rw [e, if_neg n]
        unfold chrs
        rw [List.map_append]
        rfl
      · refine w_sk hl ?_ S
        rw [e, if_pos q, List.append_nil]
  · rintro D acc H hl rfl S
    have e : (tl y).take y.cps.size = tl y := List.take_of_length_le (by simp)
    rw [e] at S
    exact k D H S
theorem joinL_nil : ∀ l : List (List Nat), TL.joinL [] l = l.flatten
  | [] => rfl
  | [p] => by simp [TL.joinL]
  | p :: q :: r => by
    show p ++ ([] ++ TL.joinL [] (q :: r)) = p ++ (q :: r).flatten
    rw [joinL_nil (q :: r)]
    rfl
theorem chrs_map (cs : List Nat) : chrs cs = (cs.map fun c => (⟨#[c]⟩ : Str)).map V.str := by
  unfold chrs
  rw [List.map_map]
  rfl
theorem flat_one : ∀ cs : List Nat, (cs.map fun c => [c]).flatten = cs
  | [] => rfl
  | c :: r => by
    show c :: (r.map fun c => [c]).flatten = c :: r
    rw [flat_one r]
theorem join_chrs (cs : List Nat) : Txt.join (Str.ofString "") (cs.map fun c => (⟨#[c]⟩ : Str)) = SX.S cs := by
  refine str_ext ?_
  have e1 : tl (Txt.join (Str.ofString "") (cs.map fun c => (⟨#[c]⟩ : Str))) = TL.joinL (tl (Str.ofString "")) ((cs.map fun c => (⟨#[c]⟩ : Str)).map tl) :=
    (congrArg tl (TL.join_eq (Str.ofString "") (cs.map fun c => (⟨#[c]⟩ : Str)))).trans (TL.tl_join _ _)
  rw [e1, show tl (Str.ofString "") = [] by decide +kernel, joinL_nil, List.map_map]
  exact flat_one cs
theorem sum_chrs (cs : List Nat) : ((cs.map fun c => (⟨#[c]⟩ : Str)).map (·.length)).sum = cs.length := by
  induction cs with
  | nil => rfl
  | cons c r ih =>
    show 1 + ((r.map fun c => (⟨#[c]⟩ : Str)).map (·.length)).sum = r.length + 1
    rw [ih]
    omega
/-- "".join of signs -/
theorem w_joinC {cs : List Nat} (h : H a = some (.lst (chrs cs))) (hl : cs.length ≤ 1000000) (k : Q (.str (SX.S cs)) H) : rJoinU K (.str (Str.ofString "")) [.ref a] H Q := by
  refine ⟨_, a, cs.map fun c => (⟨#[c]⟩ : Str), rfl, rfl, .inl (.of (by rw [← chrs_map]; exact h)), ?_, by rw [join_chrs]; exact k⟩
  rw [sum_chrs]
  have e : (Str.ofString "").length = 0 := by decide +kernel
  rw [e]
  omega
/-- a text of signs below 0x110000 -/
structure TxOk (z : Str) (n : Nat) : Prop where
  len : z.length ≤ n
  sg : ∀ c ∈ tl z, c < 1114112
theorem TxOk.app {y z : Str} {m n : Nat} (a : TxOk y m) (b : TxOk z n) : TxOk (y ++ z) (m + n) := by
  refine ⟨?_, fun c hc => ?_⟩
  · have := tl_len (y ++ z)
    rw [tl_app, List.length_append, tl_len, tl_len] at this
    have := a.len
    have := b.len
    omega
  · rw [tl_app] at hc
    rcases List.mem_append.mp hc with h | h
    · exact a.sg c h
    · exact b.sg c h
theorem TxOk.mono {y : Str} {m n : Nat} (a : TxOk y m) (h : m ≤ n) : TxOk y n := ⟨Nat.le_trans a.len h, a.sg⟩
theorem TxOk.to {y : Str} {m : Nat} {i : Int} (a : TxOk y m) (h : 0 ≤ i) : TxOk (Txt.slice y none (some i)) m := by
  have e := SX.slice_to (a := tl y) h
  rw [SX.S_tl] at e
  rw [e]
  refine ⟨?_, fun c hc => a.sg c (List.mem_of_mem_take hc)⟩
  rw [SX.S_len, List.length_take, tl_len]
  have := a.len
  omega
theorem TxOk.from {y : Str} {m : Nat} {i : Int} (a : TxOk y m) (h : 0 ≤ i) : TxOk (Txt.slice y (some i) none) m := by
  have e := SX.slice_from (a := tl y) h
  rw [SX.S_tl] at e
  rw [e]
  refine ⟨?_, fun c hc => a.sg c (List.mem_of_mem_drop hc)⟩
  rw [SX.S_len, List.length_drop, tl_len]
  have := a.len
  omega
theorem len_to_from {y : Str} {i : Int} (h : 0 ≤ i) : (Txt.slice y none (some i)).length + (Txt.slice y (some i) none).length = y.length := by
  have e := SX.slice_to (a := tl y) h
  have e2 := SX.slice_from (a := tl y) h
  rw [SX.S_tl] at e e2
  rw [e, e2, SX.S_len, SX.S_len, ← List.length_append, List.take_append_drop, tl_len]
/-- a written text, by computation -/
def txC (z : Str) (n : Nat) : Bool := decide (z.length ≤ n) && (tl z).all fun c => decide (c < 1114112)
theorem txOk_by {z : Str} {n : Nat} (h : txC z n = true) : TxOk z n := by
  unfold txC at h
  rw [Bool.and_eq_true, decide_eq_true_eq, List.all_eq_true] at h
  exact ⟨h.1, fun c hc => of_decide_eq_true (h.2 c hc)⟩
theorem TxOk.one {c : Nat} (h : c < 1114112) : TxOk ⟨#[c]⟩ 1 := ⟨Nat.le_refl 1, fun d hd => by
  have e : d = c := by simpa using hd
  rw [e]
  exact h⟩
theorem TxOk.S {cs : List Nat} {n : Nat} (hl : cs.length ≤ n) (h : ∀ c ∈ cs, c < 1114112) : TxOk (SX.S cs) n := ⟨by rw [SX.S_len]; exact hl, h⟩
end
end Q
namespace Law
open PySem PySem.Spec PyProof.Rows L2 Q
def top (i : Nat) : Stmt := PySem.Challenge.pw_learnplace_k74_numbers_and_names_read.main.body.getD i (.Pass ⟨0, 0, 0, 0⟩)
abbrev s_law : Stmt := top 24
theorem sc_law : FnScope ["script", "bag", "turn", "most", "few", "text", "bound", "found", "told", "due", "word"] ["script"] (defScope s_law) := ⟨rfl, rfl, rfl, by decide +kernel, rfl, by decide +kernel, by decide +kernel⟩
abbrev s__law_bag : Stmt := top 16
theorem sc__law_bag : FnScope ["script", "stir", "cell"] ["script"] (defScope s__law_bag) := ⟨rfl, rfl, rfl, by decide +kernel, rfl, by decide +kernel, by decide +kernel⟩
abbrev s__law_draw : Stmt := top 17
theorem sc__law_draw : FnScope ["bag", "many", "found"] ["bag", "many"] (defScope s__law_draw) := ⟨rfl, rfl, rfl, by decide +kernel, rfl, by decide +kernel, by decide +kernel⟩
abbrev s__law_name_due : Stmt := top 23
theorem sc__law_name_due : FnScope ["text", "sign"] ["text"] (defScope s__law_name_due) := ⟨rfl, rfl, rfl, by decide +kernel, rfl, by decide +kernel, by decide +kernel⟩
abbrev s__law_read : Stmt := top 19
theorem sc__law_read : FnScope ["text", "most", "found", "told", "e"] ["text", "most"] (defScope s__law_read) := ⟨rfl, rfl, rfl, by decide +kernel, rfl, by decide +kernel, by decide +kernel⟩
abbrev s__law_text : Stmt := top 20
theorem sc__law_text : FnScope ["bag", "most", "few", "many", "text", "at", "k"] ["bag", "most"] (defScope s__law_text) := ⟨rfl, rfl, rfl, by decide +kernel, rfl, by decide +kernel, by decide +kernel⟩
abbrev s__law_value : Stmt := top 18
theorem sc__law_value : FnScope ["text", "most", "figures", "sign"] ["text", "most"] (defScope s__law_value) := ⟨rfl, rfl, rfl, by decide +kernel, rfl, by decide +kernel, by decide +kernel⟩
abbrev s__law_word : Stmt := top 22
theorem sc__law_word : FnScope ["bag", "text", "at", "k"] ["bag"] (defScope s__law_word) := ⟨rfl, rfl, rfl, by decide +kernel, rfl, by decide +kernel, by decide +kernel⟩
abbrev s_is_name : Stmt := top 13
theorem sc_is_name : FnScope ["text", "sign"] ["text"] (defScope s_is_name) := ⟨rfl, rfl, rfl, by decide +kernel, rfl, by decide +kernel, by decide +kernel⟩
abbrev s_read_whole : Stmt := top 14
theorem sc_read_whole : FnScope ["text", "most", "figures", "sign"] ["text", "most"] (defScope s_read_whole) := ⟨rfl, rfl, rfl, by decide +kernel, rfl, by decide +kernel, by decide +kernel⟩
abbrev s__law_any_sign : Stmt := top 21
theorem sc__law_any_sign : FnScope ["bag", "some"] ["bag"] (defScope s__law_any_sign) := ⟨rfl, rfl, rfl, by decide +kernel, rfl, by decide +kernel, by decide +kernel⟩
structure Txt (K : PySem.W.Frag) (mg : Str → Option Value) (a_HouseError a_NoText a_NotFormed a_NoThing a_NoName a_Fixed a_Ring a_Shut : Addr) : Prop where
  n_range : mg "range" = none
  n_min : mg "min" = none
  n_max : mg "max" = none
  n_isinstance : mg "isinstance" = none
  n_bool : mg "bool" = none
  n_int : mg "int" = none
  n_abs : mg "abs" = none
  n_len : mg "len" = none
  n_ValueError : mg "ValueError" = none
  k_MOST_SIGNS : ∃ u, mg "MOST_SIGNS" = some u ∧ RelV (.int 8) u
  k_LETTERS : ∃ u, mg "LETTERS" = some u ∧ RelV (.str "abcdefghijklmnopqrstuvwxyz") u
  k_FIGURES : ∃ u, mg "FIGURES" = some u ∧ RelV (.str "0123456789") u
  c_HouseError : mg "HouseError" = some (.ref a_HouseError)
  c_NoText : mg "NoText" = some (.ref a_NoText)
  c_NotFormed : mg "NotFormed" = some (.ref a_NotFormed)
  c_NoThing : mg "NoThing" = some (.ref a_NoThing)
  c_NoName : mg "NoName" = some (.ref a_NoName)
  c_Fixed : mg "Fixed" = some (.ref a_Fixed)
  c_Ring : mg "Ring" = some (.ref a_Ring)
  c_Shut : mg "Shut" = some (.ref a_Shut)
  x_HouseError : Xc K mg "HouseError" a_HouseError
  x_NoText : Xc K mg "NoText" a_NoText
  e_NoText : ExcC K a_NoText
  i_NoText_NoText : PySem.W.kitOne K (.ref a_NoText) (.ref a_NoText) = some true
  i_NoText_NotFormed : PySem.W.kitOne K (.ref a_NoText) (.ref a_NotFormed) = some false
  i_NoText_NoThing : PySem.W.kitOne K (.ref a_NoText) (.ref a_NoThing) = some false
  i_NoText_NoName : PySem.W.kitOne K (.ref a_NoText) (.ref a_NoName) = some false
  i_NoText_Fixed : PySem.W.kitOne K (.ref a_NoText) (.ref a_Fixed) = some false
  i_NoText_Ring : PySem.W.kitOne K (.ref a_NoText) (.ref a_Ring) = some false
  i_NoText_Shut : PySem.W.kitOne K (.ref a_NoText) (.ref a_Shut) = some false
  i_NoText_ValueError : PySem.W.kitOne K (.ref a_NoText) (.type "ValueError") = some true
  h_NoText_HouseError : PySem.W.exmOne K (.ref a_NoText) (.ref a_HouseError) = some true
  f__law_bag : Df K mg "_law_bag" s__law_bag ["script"]
  f__law_draw : Df K mg "_law_draw" s__law_draw ["bag", "many"]
  f__law_name_due : Df K mg "_law_name_due" s__law_name_due ["text"]
  f__law_read : Df K mg "_law_read" s__law_read ["text", "most"]
  f__law_text : Df K mg "_law_text" s__law_text ["bag", "most"]
  f__law_value : Df K mg "_law_value" s__law_value ["text", "most"]
  f__law_word : Df K mg "_law_word" s__law_word ["bag"]
  f_is_name : Df K mg "is_name" s_is_name ["text"]
  f_read_whole : Df K mg "read_whole" s_read_whole ["text", "most"]
  f__law_any_sign : Df K mg "_law_any_sign" s__law_any_sign ["bag"]
/-- the bag at b: what is left of the script's numbers, .. ; more behind the five -/
abbrev Bag5 (l : Addr) (at_ left stir cnt : Int) (more : List V) : List V := .ref l :: .int at_ :: .int left :: .int stir :: .int cnt :: more
def big : Int := 10 ^ 60
structure BagOk (cs : List Int) (at_ left stir cnt : Int) : Prop where
  len : cs.length ≤ 63
  cells : ∀ c ∈ cs, 0 ≤ c ∧ c < big
  a0 : 0 ≤ at_
  a1 : at_ ≤ (cs.length : Int)
  l0 : 0 ≤ left
  l1 : left < big
  s0 : 0 ≤ stir
  s1 : stir < 2147483647
  c0 : 0 ≤ cnt
def BagA (b : Addr) (more : List V) : Res := ex fun l => ex fun cs : List Int => ex fun a : Int => ex fun left : Int => ex fun stir : Int => ex fun cnt : Int =>
  All [pure' (BagOk cs a left stir cnt), pts b (.lst (Bag5 l a left stir cnt more)), pts l (.lst (cs.map V.int))]
theorem BagA.open {H : Hp} {b : Addr} {more : List V} {R : List Res} (S : Sat H (BagA b more :: R)) :
    ∃ l cs a left stir cnt, BagOk cs a left stir cnt ∧ Sat H (pts b (.lst (Bag5 l a left stir cnt more)) :: pts l (.lst (cs.map V.int)) :: R) := by
  obtain ⟨l, S⟩ := Sat.ex.mp S
  obtain ⟨cs, S⟩ := Sat.ex.mp S
  obtain ⟨a, S⟩ := Sat.ex.mp S
  obtain ⟨left, S⟩ := Sat.ex.mp S
  obtain ⟨stir, S⟩ := Sat.ex.mp S
  obtain ⟨cnt, S⟩ := Sat.ex.mp S
  obtain ⟨h, S⟩ := Sat.pure.mp (Sat.all.mp S)
  exact ⟨l, cs, a, left, stir, cnt, h, S⟩
theorem BagA.close {H : Hp} {b l : Addr} {cs : List Int} {a left stir cnt : Int} {more : List V} {R : List Res} (h : BagOk cs a left stir cnt)
    (S : Sat H (pts b (.lst (Bag5 l a left stir cnt more)) :: pts l (.lst (cs.map V.int)) :: R)) : Sat H (BagA b more :: R) :=
  Sat.ex.mpr ⟨l, Sat.ex.mpr ⟨cs, Sat.ex.mpr ⟨a, Sat.ex.mpr ⟨left, Sat.ex.mpr ⟨stir, Sat.ex.mpr ⟨cnt, Sat.all.mpr (Sat.pure.mpr ⟨h, S⟩)⟩⟩⟩⟩⟩⟩
/-- _law_bag(script) -/
def spBag (K : PySem.W.Frag) : Sp := fun vs H Q _ => ∃ (a : Addr) (ns : List Int) (R : List Res), vs = [.ref a] ∧ ns.length ≤ 63 ∧ Sat H (scr K a (ns.map V.int) :: R) ∧ ∀ b H', Sat H' (BagA b [] :: R) → Q (.ref b) H'
theorem cut63 {xs : List V} (h : xs.length ≤ 63) : cutV xs none (some 63) = xs := by
  have e : cutV xs none (some 63) = (xs.drop (HT.sIx xs.length 0 none)).take (HT.sIx xs.length xs.length (some ((63 : Nat) : Int)) - HT.sIx xs.length 0 none) := rfl
  rw [e, HT.sIx_nat, HT.sIx_none, List.drop_zero, Nat.sub_zero]
  exact List.take_of_length_le (by omega)
/-- _law_draw(bag, many): any number from 0 to below many -/
def spDraw : Sp := fun vs H Q _ => ∃ (b : Addr) (m : Int) (more : List V) (R : List Res), vs = [.ref b, .int m] ∧ 0 < m ∧ m ≤ big ∧ Sat H (BagA b more :: R) ∧
  ∀ (k : Int) H', 0 ≤ k → k < m → Sat H' (BagA b more :: R) → Q (.int k) H'
theorem le_big {m : Int} (h : m ≤ 1000000000) : m ≤ big := Int.le_trans h (by decide)
theorem w_draw {b : Addr} {m : Int} {more : List V} {R : List Res} {H : Hp} {Q : VK} {E : XK} (S : Sat H (BagA b more :: R)) (m0 : 0 < m) (m1 : m ≤ 1000000000) (k : ∀ (k : Int) H', 0 ≤ k → k < m → Sat H' (BagA b more :: R) → Q (.int k) H') : spDraw [.ref b, .int m] H Q E :=
  ⟨b, m, more, R, rfl, m0, le_big m1, S, k⟩
/-- [.., ..][_law_draw(bag, n)] -/
theorem w_one {K : PySem.W.Frag} {σ : L2.St} {i : Nat} {b : Addr} {n : Int} {more xs : List V} {As R : List Res} {H : Hp} {Z : VK} {E : XK} (S : Sat H As) (pk : Pick (BagA b more) As R) (p : V → Prop) (hp : EachP p xs) (k : ∀ v H', p v → Sat H' (BagA b more :: R) → Z v H')
    (hs : σ[i]? = some (some (V.ref b)) := by rfl) (hl : (xs.length : Int) = n := by rfl) (h0 : 0 < n := by decide) (hz : n ≤ 1000 := by decide) :
    kLst (fun x H1 => tCall spDraw [] E (tCons (tVar i) (tCons (tC (.int n)) tNil)) σ H1 fun y H2 => rIxU K x y H2 Z) xs H := by
  refine w_newL S (by omega) fun q H2 _ S => ?_
  refine w_call (w_cons (w_var hs (w_cons (w_c (w_nil (w_app ?_))))))
  refine w_draw (S.pick (.there pk)) h0 (by omega) fun j H3 j0 j1 S => ?_
  exact w_ixP p (c1 S) j0 (by omega) hp fun v hv => k v H3 hv (S.to (.cons .here (.skip .refl)))
theorem cdiv {i m : Int} (h0 : 0 < m) (h1 : m ≤ big) : CDivW i m := wide_div (b := 201) h0 (by
  have e : big ≤ (2 ^ 200 : Int) := by decide
  have e2 : (2 ^ 200 : Nat) < 2 ^ 201 := by decide
  have e3 : ((2 ^ 200 : Nat) : Int) = (2 ^ 200 : Int) := by decide
  omega) (by decide) (by decide)
section
variable {P : Program} {w : World} {K : PySem.W.Frag} {mg : Str → Option Value} {base : Heap} {a_HouseError a_NoText a_NotFormed a_NoThing a_NoName a_Fixed a_Ring a_Shut : Addr}
theorem c__law_draw (T : Txt K mg a_HouseError a_NoText a_NotFormed a_NoThing a_NoName a_Fixed a_Ring a_Shut) : Cl P w K mg base CX0 1 "_law_draw" spDraw := by
  refine T.f__law_draw.cl sc__law_draw (fun vs H Q E h => by obtain ⟨b, m, _, _, rfl, _⟩ := h; rfl) (fun f cdv A outer s H vs Q E hr h => ?_)
  obtain ⟨b, m, more, R, rfl, m0, m1, S, k⟩ := h
  refine ⟨_, (pss_cons (ps_if (PW.pt (pw_and (pt_cmpR (op_eqU K hr.units) (pe_ix (ix_U K (hu_of hr)) (pv 0) pe_int (fun _ _ => rfl)) pe_int (nomark _)) (pw_and1 (pt_cmpR op_ltU (pe_ix (ix_U K (hu_of hr)) (pv 0) pe_int (fun _ _ => rfl)) (pe_callB (call_lenU K) rfl T.n_len (by decide +kernel) (pa_cons (pe_ix (ix_U K (hu_of hr)) (pv 0) pe_int (fun _ _ => rfl)) pa_nil)) (nomark _)))))
 (pss_cons (ps_asg (pe_ix (ix_U K (hu_of hr)) (pe_ix (ix_U K (hu_of hr)) (pv 0) pe_int (fun _ _ => rfl)) (pe_ix (ix_U K (hu_of hr)) (pv 0) pe_int (fun _ _ => rfl)) (fun _ _ => rfl)) (pg_sub (pv 0) pe_int (set_U (hu_of hr)) (fun _ => rfl)))
 (pss_one (ps_asg (pe_op (op_addU K) (pe_ix (ix_U K (hu_of hr)) (pv 0) pe_int (fun _ _ => rfl)) pe_int) (pg_sub (pv 0) pe_int (set_U (hu_of hr)) (fun _ => rfl)))))
 (pss_one (ps_if (pt_cmpR (op_eqU K hr.units) (pe_ix (ix_U K (hu_of hr)) (pv 0) pe_int (fun _ _ => rfl)) pe_int (nomark _))
 (pss_cons (ps_asg (pe_op (op_addU K) (pe_ix (ix_U K (hu_of hr)) (pv 0) pe_int (fun _ _ => rfl)) pe_int) (pg_sub (pv 0) pe_int (set_U (hu_of hr)) (fun _ => rfl)))
 (pss_cons (ps_asg (pe_op op_modU (pe_op (op_addU K) (pe_op (op_addU K) (pe_op (op_addU K) (pe_op op_powU (pe_ix (ix_U K (hu_of hr)) (pv 0) pe_int (fun _ _ => rfl)) pe_int) (pe_op op_mulU pe_int (pe_ix (ix_U K (hu_of hr)) (pv 0) pe_int (fun _ _ => rfl)))) (pe_op op_mulU pe_int (pe_ix (ix_U K (hu_of hr)) (pv 0) pe_int (fun _ _ => rfl)))) pe_int) pe_int) (pg_sub (pv 0) pe_int (set_U (hu_of hr)) (fun _ => rfl)))
 (pss_one (ps_ret (pe_op op_modU (pe_op op_divU (pe_ix (ix_U K (hu_of hr)) (pv 0) pe_int (fun _ _ => rfl)) pe_int) (pv 1))))))
 pss_nil)))
 (pss_cons (ps_set (i := 2) sc__law_draw.nd rfl (Or.inl rfl) (pe_op op_modU (pe_ix (ix_U K (hu_of hr)) (pv 0) pe_int (fun _ _ => rfl)) (pv 1)))
 (pss_cons (ps_asg (pe_op op_divU (pe_ix (ix_U K (hu_of hr)) (pv 0) pe_int (fun _ _ => rfl)) (pv 1)) (pg_sub (pv 0) pe_int (set_U (hu_of hr)) (fun _ => rfl)))
 (pss_one (ps_ret (pv 2)))))), ?_⟩
  obtain ⟨l, cs, a, left, stir, cnt, ok, S⟩ := BagA.open S
  walk_at "i"
  walk_at "xs"
  refine w_ite (fun e0 => ?_) (fun e0 => ?_)
  · walk_at "xs"
    rw [List.length_map]
    refine w_ite (fun ea => ?_) (fun ea => ?_)
    · walk_at "xs"
      refine w_ixM (by walk_at "h") ok.a0 (by rw [List.length_map]; exact ea) (fun v hv => ?_)
      obtain ⟨c, hc, rfl⟩ := List.mem_map.mp hv
      obtain ⟨c0, c1⟩ := ok.cells c hc
      walk_at "xs"
      refine w_setN S 0 rfl (by decide) (by simp [Bag5]) (fun H S => ?_)
      replace S : Sat H (pts b (.lst (Bag5 l a c stir cnt more)) :: pts l (.lst (cs.map V.int)) :: R) := S
      walk_at "xs"
      refine w_setN S 0 rfl (by decide) (by simp [Bag5]) (fun H S => ?_)
      replace S : Sat H (pts b (.lst (Bag5 l (a + 1) c stir cnt more)) :: pts l (.lst (cs.map V.int)) :: R) := S
      walk_at "xs"
      refine w_div (cdiv m0 m1) ?_
      walk_at "xs"
      refine w_setN S 0 rfl (by decide) (by simp [Bag5]) (fun H S => ?_)
      replace S : Sat H (pts b (.lst (Bag5 l (a + 1) (c / m) stir cnt more)) :: pts l (.lst (cs.map V.int)) :: R) := S
      walk_at "xs"
      exact k _ _ (Int.emod_nonneg _ (by omega)) (Int.emod_lt_of_pos _ m0) (BagA.close { ok with a0 := by have := ok.a0; omega, a1 := by omega, l0 := Int.ediv_nonneg c0 (by omega), l1 := Int.lt_of_le_of_lt (Int.ediv_le_self m c0) c1 } S)
    · walk_at "xs"
      refine w_yes e0 ?_
      walk_at "xs"
      refine w_setN S 0 rfl (by decide) (by simp [Bag5]) (fun H S => ?_)
      replace S : Sat H (pts b (.lst (Bag5 l a left stir (cnt + 1) more)) :: pts l (.lst (cs.map V.int)) :: R) := S
      walk_at "xs"
      have s0 := ok.s0
      have s1 := ok.s1
      refine w_pow ⟨by decide, by decide, by omega⟩ ?_
      walk_at "xs"
      refine w_mul (.inl (.inl (by decide))) ?_
      walk_at "xs"
      refine w_mul (.inl (.inl (by decide))) ?_
      walk_at "xs"
      refine w_setN S 0 rfl (by decide) (by simp [Bag5]) (fun H S => ?_)
      generalize hz : (stir ^ Int.toNat 3 + 69621 * stir + 1019 * (cnt + 1) + 1) % 2147483647 = z at S
      replace S : Sat H (pts b (.lst (Bag5 l a left z (cnt + 1) more)) :: pts l (.lst (cs.map V.int)) :: R) := S
      walk_at "xs"
      refine w_div (cdiv (by decide) (by decide)) ?_
      walk_at "xs"
      exact k _ _ (Int.emod_nonneg _ (by omega)) (Int.emod_lt_of_pos _ m0) (BagA.close { ok with s0 := by omega, s1 := by omega, c0 := by have := ok.c0; omega } S)
  · walk_at "xs"
    refine w_no e0 ?_
    walk_at "xs"
    refine w_div (cdiv m0 m1) ?_
    walk_at "xs"
    refine w_setN S 0 rfl (by decide) (by simp [Bag5]) (fun H S => ?_)
    replace S : Sat H (pts b (.lst (Bag5 l a (left / m) stir cnt more)) :: pts l (.lst (cs.map V.int)) :: R) := S
    walk_at "xs"
    have l0 := ok.l0
    exact k _ _ (Int.emod_nonneg _ (by omega)) (Int.emod_lt_of_pos _ m0) (BagA.close { ok with l0 := Int.ediv_nonneg l0 (by omega), l1 := Int.lt_of_le_of_lt (Int.ediv_le_self m l0) ok.l1 } S)
theorem c__law_bag (T : Txt K mg a_HouseError a_NoText a_NotFormed a_NoThing a_NoName a_Fixed a_Ring a_Shut) : Cl P w K mg base CX0 1 "_law_bag" (spBag K) := by
  refine T.f__law_bag.cl sc__law_bag (fun vs H Q E h => by obtain ⟨a, _, _, rfl, _⟩ := h; rfl) (fun f cdv A outer s H vs Q E hr h => ?_)
  obtain ⟨a, ns, R, rfl, hn, S, k⟩ := h
  refine ⟨_, (pss_cons (ps_set (i := 1) sc__law_bag.nd rfl (Or.inl rfl) pe_int)
 (pss_cons (ps_for PassesOwn.never rfl (pi_seqK K (pe_slice (sl_U K) (pv 0) po_none (po_some pe_int))) (pg_name (i := 2) sc__law_bag.nd rfl (Or.inl rfl))
 (pss_one (ps_set (i := 1) sc__law_bag.nd rfl (Or.inl rfl) (pe_op op_modU (pe_op (op_addU K) (pe_op (op_addU K) (pe_op op_mulU (pv 1) pe_int) (pe_op op_modU (pv 2) pe_int)) pe_int) pe_int))))
 (pss_one (ps_ret (pe_lst (pa_cons (pe_lc (own := [("cell", 2)]) (g := gName 2) (tt := tYes) rfl sc__law_bag.nd (pi_seqK K (pe_slice (sl_U K) (pv 0) po_none (po_some pe_int))) (blkOk_by (N := ["script", "stir", "cell"]) (sc := defScope s__law_bag) (by decide +kernel)) (fun _ _ _ _ _ => (pg_name (i := 2) sc__law_bag.nd rfl (Or.inl rfl))) (fun _ _ _ _ _ => pts_nil) (fun _ _ _ _ _ => (pe_op op_modU (pe_callB call_absU rfl T.n_abs (by decide +kernel) (pa_cons (pv 2) pa_nil)) (pe_op op_powU pe_int pe_int)))) (pa_cons pe_int (pa_cons pe_int (pa_cons (pv 1) (pa_cons pe_int pa_nil)))))))))), ?_⟩
  walk_at "i"
  walk_at "xs"
  refine w_sqL ?_
  walk_at "xs"
  refine w_slQ (scr_get S) ?_
  rw [cut63 (by rw [List.length_map]; exact hn)]
  refine w_newU S (fun p H _ S => ?_)
  refine w_slV (by walk_at "h") ?_
  refine w_forK (walk_list (K := K) (a := p) (xs := ns.map V.int)) (fun i σ H => ∃ stir v, σ = [some (.ref a), some (.int stir), v] ∧ 0 ≤ stir ∧ stir < 2147483647 ∧ Sat H (sh p (.lst (ns.map V.int)) :: scr K a (ns.map V.int) :: R))
    ⟨13, none, rfl, by decide, by decide, S⟩ (fun i σ H _ ⟨_, _, _, _, _, S⟩ => .of S.readS) ?_ ?_
  · rintro i x σ H H' hi ⟨stir, v, rfl, s0, s1, S⟩ ⟨rfl, hx⟩
    obtain ⟨c, rfl⟩ : ∃ c, x = V.int c := by
      obtain ⟨c, _, e⟩ := List.mem_map.mp (List.mem_of_getElem? hx)
      exact ⟨c, e.symm⟩
    walk_at "xs"
    refine w_mul (.inl (.inr (by decide))) ?_
    walk_at "xs"
    exact ⟨_, _, rfl, by omega, by omega, S⟩
  · rintro σ H ⟨stir, v, rfl, s0, s1, S⟩
    walk_at "xs"
    refine w_sqL ?_
    walk_at "xs"
    refine w_slQ (scr_get S.drop) ?_
    rw [cut63 (by rw [List.length_map]; exact hn)]
    refine w_newU S (fun q H _ S => ?_)
    refine w_slV (by walk_at "h") ?_
    refine w_lcK (walk_list (K := K) (a := q) (xs := ns.map V.int)) (by rw [List.length_map]; omega) (fun i acc => ∃ cs : List Int, acc = cs.map V.int ∧ ∀ c ∈ cs, 0 ≤ c ∧ c < big) (fun i acc => sh q (.lst (ns.map V.int)) :: R)
      ⟨[], rfl, fun _ h => absurd h List.not_mem_nil⟩ (S.to (by walk_at "s")) (fun i acc D H _ S => .of S.drop.readS) ?_ ?_
    · rintro i acc D x H H' hi hz hl ⟨cs, rfl, hc⟩ S ⟨rfl, hx⟩
      obtain ⟨c, rfl⟩ : ∃ c, x = V.int c := by
        obtain ⟨c, _, e⟩ := List.mem_map.mp (List.mem_of_getElem? hx)
        exact ⟨c, e.symm⟩
      walk_at "xs"
      refine ⟨rfl, ?_⟩
      walk_at "xs"
      refine w_pow ⟨by decide, by decide, by decide⟩ ?_
      refine w_mod (by decide) ?_
      refine w_el hl hz ⟨cs ++ [(if c < 0 then -c else c) % 10 ^ Int.toNat 60], by rw [List.map_append]; rfl, fun z hz => ?_⟩ S
      rcases List.mem_append.mp hz with h | h
      · exact hc z h
      · rw [List.mem_singleton.mp h]
        exact ⟨Int.emod_nonneg _ (by decide), Int.emod_lt_of_pos _ (by decide)⟩
    · rintro D acc H hl ⟨cs, rfl, hc⟩ S
      walk_at "xs"
      refine w_newL S (by simp) (fun b H _ S => ?_)
      rw [List.length_map] at hl
      rw [List.length_map] at hl
      exact k _ _ (BagA.close (a := 0) (left := 0) (cnt := 0) ⟨by omega, hc, by decide, by omega, by decide, by decide, s0, s1, by decide⟩ (S.to (by walk_at "s")))
end


end Law
namespace Law
open PySem PySem.Spec PyProof.Rows L2 Q
def isName (z : Str) : Bool := decide (1 ≤ z.length) && (decide (z.length ≤ 8) && ((tl z).filter fun c => !decide (c ∈ tl ("abcdefghijklmnopqrstuvwxyz" : Str))).isEmpty)
/-- is_name(text) -/
def spName : Sp := fun vs H Q _ => ∃ (z : Str) (R : List Res), vs = [.str z] ∧ z.length ≤ 1000 ∧ (∀ c ∈ tl z, c < 1114112) ∧ Sat H R ∧ ∀ H', Sat H' R → Q (.bl (isName z)) H'
section
variable {P : Program} {w : World} {K : PySem.W.Frag} {mg : Str → Option Value} {base : Heap} {a_HouseError a_NoText a_NotFormed a_NoThing a_NoName a_Fixed a_Ring a_Shut : Addr}
theorem c_is_name (T : Txt K mg a_HouseError a_NoText a_NotFormed a_NoThing a_NoName a_Fixed a_Ring a_Shut) : Cl P w K mg base CX0 1 "is_name" spName := by
  refine T.f_is_name.cl sc_is_name (fun vs H Q E h => by obtain ⟨_, _, rfl, _⟩ := h; rfl) (fun f cdv A outer s H vs Q E hr h => ?_)
  obtain ⟨z, R, rfl, hz, hc, S, k⟩ := h
  refine ⟨_, (pss_one (ps_ret (pe_andK K (pe_chain op_leU op_leU pe_int (pe_callB (call_lenU K) rfl T.n_len (by decide +kernel) (pa_cons (pv 0) pa_nil)) (pe_gv rfl T.k_MOST_SIGNS)) (pe_one (pe_cmpR (op_eqU K hr.units) (pe_lc (own := [("sign", 1)]) (g := gName 1) rfl sc_is_name.nd (pi_seqK K (pv 0)) (blkOk_by (N := ["text", "sign"]) (sc := defScope s_is_name) (by decide +kernel)) (fun _ _ _ _ _ => (pg_name (i := 1) sc_is_name.nd rfl (Or.inl rfl))) (fun _ _ _ _ _ => pts_one (pt_cmpR (op_notinU K (hu65 hr)) (pv 1) (pe_gv rfl T.k_LETTERS) (by with_unfolding_all rfl))) (fun _ _ _ _ _ => (pv 1))) (pe_lst pa_nil) (nomark _)))))), ?_⟩
  walk_at "i"
  walk_at "xs"
  refine w_ite (fun h1 => ?_) (fun h1 => ?_)
  · walk_at "xs"
    refine w_ite (fun h2 => ?_) (fun h2 => ?_)
    · walk_at "xs"
      refine w_sqS ?_
      walk_at "xs"
      refine w_ssV (w_nots (by simp) (by omega) S fun D H S => ?_)
      refine w_lst (w_nil (w_newL S (by decide) fun p H _ S => ?_))
      refine w_eqC (by walk_at "h") (by walk_at "h") (fun c h => hc c (List.mem_filter.mp h).1) ?_
      have e : isName z = ((tl z).filter fun c => !decide (c ∈ tl ("abcdefghijklmnopqrstuvwxyz" : Str))).isEmpty := by
        unfold isName
        rw [decide_eq_true (show 1 ≤ z.length by omega), decide_eq_true (show z.length ≤ 8 by omega)]
        rfl
      have q := k H (S.to (by walk_at "s"))
      rw [e] at q
      exact q
    · have q := k H S
      have e : isName z = decide ((z.length : Int) ≤ 8) := by
        unfold isName
        rw [decide_eq_false (show ¬ z.length ≤ 8 by omega), decide_eq_false h2]
        exact Bool.and_false _
      rw [e] at q
      exact q
  · walk_at "xs"
    have q := k H S
    have e : isName z = false := by
      unfold isName
      rw [decide_eq_false (show ¬ 1 ≤ z.length by omega)]
      rfl
    rw [e] at q
    exact q
theorem c__law_name_due (T : Txt K mg a_HouseError a_NoText a_NotFormed a_NoThing a_NoName a_Fixed a_Ring a_Shut) : Cl P w K mg base CX0 1 "_law_name_due" spName := by
  refine T.f__law_name_due.cl sc__law_name_due (fun vs H Q E h => by obtain ⟨_, _, rfl, _⟩ := h; rfl) (fun f cdv A outer s H vs Q E hr h => ?_)
  obtain ⟨z, R, rfl, hz, hc, S, k⟩ := h
  refine ⟨_, (pss_one (ps_ret (pe_andK K (pe_chain op_ltU op_ltU pe_int (pe_callB (call_lenU K) rfl T.n_len (by decide +kernel) (pa_cons (pv 0) pa_nil)) pe_int) (pe_one (pe_cmpR (op_eqU K hr.units) (pe_lc (own := [("sign", 1)]) (g := gName 1) rfl sc__law_name_due.nd (pi_seqK K (pv 0)) (blkOk_by (N := ["text", "sign"]) (sc := defScope s__law_name_due) (by decide +kernel)) (fun _ _ _ _ _ => (pg_name (i := 1) sc__law_name_due.nd rfl (Or.inl rfl))) (fun _ _ _ _ _ => pts_one (pt_cmpR (op_notinU K (hu65 hr)) (pv 1) pe_str (by with_unfolding_all rfl))) (fun _ _ _ _ _ => (pv 1))) (pe_lst pa_nil) (nomark _)))))), ?_⟩
  walk_at "i"
  walk_at "xs"
  refine w_ite (fun h1 => ?_) (fun h1 => ?_)
  · walk_at "xs"
    refine w_ite (fun h2 => ?_) (fun h2 => ?_)
    · walk_at "xs"
      refine w_sqS ?_
      walk_at "xs"
      refine w_ssV (w_nots (by simp) (by omega) S fun D H S => ?_)
      refine w_lst (w_nil (w_newL S (by decide) fun p H _ S => ?_))
      refine w_eqC (by walk_at "h") (by walk_at "h") (fun c h => hc c (List.mem_filter.mp h).1) ?_
      have e : isName z = ((tl z).filter fun c => !decide (c ∈ tl ("abcdefghijklmnopqrstuvwxyz" : Str))).isEmpty := by
        unfold isName
        rw [decide_eq_true (show 1 ≤ z.length by omega), decide_eq_true (show z.length ≤ 8 by omega)]
        rfl
      have q := k H (S.to (by walk_at "s"))
      rw [e] at q
      exact q
    · have q := k H S
      have e : isName z = decide ((z.length : Int) < 9) := by
        unfold isName
        rw [decide_eq_false (show ¬ z.length ≤ 8 by omega), decide_eq_false h2]
        exact Bool.and_false _
      rw [e] at q
      exact q
  · walk_at "xs"
    have q := k H S
    have e : isName z = false := by
      unfold isName
      rw [decide_eq_false (show ¬ 1 ≤ z.length by omega)]
      rfl
    rw [e] at q
    exact q
def figs : Str := "0123456789"
def figsOf (z : Str) : Str := if Txt.slice z none (some 1) = ("-" : Str) then Txt.slice z (some 1) none else z
def notFigs (f : Str) : List Nat := (tl f).filter fun c => !decide (c ∈ tl ("0123456789" : Str))
def okW (z : Str) (m : Int) : Prop := 1 ≤ (figsOf z).length ∧ ((figsOf z).length : Int) ≤ m ∧ notFigs (figsOf z) = [] ∧ ¬ ((tl (figsOf z)).head? = some 48 ∧ z ≠ ("0" : Str))
instance (z : Str) (m : Int) : Decidable (okW z m) := by unfold okW; infer_instance
def wholeOf (z : Str) (m : Int) : Option Int := if okW z m then PySem.intText? z else none
theorem figs_tl : tl ("0123456789" : Str) = [48, 49, 50, 51, 52, 53, 54, 55, 56, 57] := by decide +kernel
theorem slice1 {z : Str} : Txt.slice z none (some 1) = SX.S ((tl z).take 1) := by
  have e := SX.slice_to (a := tl z) (i := 1) (by decide)
  rw [SX.S_tl] at e
  exact e
theorem slice1n {z : Str} : Txt.slice z (some 1) none = SX.S ((tl z).drop 1) := by
  have e := SX.slice_from (a := tl z) (i := 1) (by decide)
  rw [SX.S_tl] at e
  exact e
theorem figs_all {f : Str} (h : notFigs f = []) : PySem.NumText.AllDigits (tl f) := fun c hc => by
  have h1 := List.filter_eq_nil_iff.mp h c hc
  rw [figs_tl] at h1
  simp at h1
  omega
theorem okW_some {z : Str} {m : Int} (h : okW z m) (hz : z.length ≤ 640) : ∃ n, PySem.intText? z = some n := by
  obtain ⟨h1, h2, h3, h4⟩ := h
  have ne : tl (figsOf z) ≠ [] := fun e => by
    have := tl_len (figsOf z)
    rw [e] at this
    simp at this
    omega
  have ad := figs_all h3
  by_cases c : Txt.slice z none (some 1) = ("-" : Str)
  · have e : figsOf z = SX.S ((tl z).drop 1) := by
      unfold figsOf
      rw [if_pos c, slice1n]
    rw [e] at ne ad
    have c2 : (tl z).take 1 = [45] := by
      rw [slice1] at c
      have := congrArg tl c
      exact this
    have e3 : tl z = 45 :: (tl z).drop 1 := by
      have := List.take_append_drop 1 (tl z)
      rw [c2] at this
      exact this.symm
    exact ⟨_, PySem.intText_neg e3 ad ne (by omega)⟩
  · have e : figsOf z = z := by
      unfold figsOf
      rw [if_neg c]
    rw [e] at ne ad
    exact ⟨_, PySem.intText_digits ad ne (by omega)⟩
/-- read_whole(text, most) -/
def spRead (c : Addr) : Sp := fun vs H Q E => ∃ (z : Str) (m : Int) (R : List Res), vs = [.str z, .int m] ∧ z.length ≤ 640 ∧ (∀ c ∈ tl z, c < 1114112) ∧ Sat H R ∧
  (∀ n, wholeOf z m = some n → ∀ H', Sat H' R → Q (.int n) H') ∧ (wholeOf z m = none → ∀ H', Sat H' R → E (.ref c) none H')
theorem figsOf_len (z : Str) : (figsOf z).length ≤ z.length := by
  unfold figsOf
  split
  · rw [slice1n, SX.S_len, List.length_drop, tl_len]
    omega
  · exact Nat.le_refl _
theorem figsOf_sub {z : Str} {c : Nat} (h : c ∈ tl (figsOf z)) : c ∈ tl z := by
  unfold figsOf at h
  split at h
  · rw [slice1n] at h
    exact List.mem_of_mem_drop h
  · exact h
theorem c_read_whole (T : Txt K mg a_HouseError a_NoText a_NotFormed a_NoThing a_NoName a_Fixed a_Ring a_Shut) : Cl P w K mg base (L2N.CX P w) 1 "read_whole" (spRead a_NoText) := by
  refine T.f_read_whole.clX sc_read_whole (fun vs H Q E h => by obtain ⟨_, _, _, rfl, _⟩ := h; rfl) (fun f cdv A outer s H vs Q E hr h => ?_)
  obtain ⟨z, m, R, rfl, hz, hc, S, k, kE⟩ := h
  refine ⟨_, (pss_cons (ps_set (i := 2) sc_read_whole.nd rfl (Or.inl rfl) (pv 0))
 (C8.pss_cut (ps_if (pt_cmpR (op_eqU K hr.units) (pe_slice (sl_U K) (pv 0) po_none (po_some pe_int)) pe_str (nomark _))
 (pss_one (ps_set (i := 2) sc_read_whole.nd rfl (Or.inl rfl) (pe_slice (sl_U K) (pv 0) (po_some pe_int) po_none)))
 pss_nil)
 (pss_cons (ps_if (PW.pt (pw_or (pt_not (pt_chain op_leU op_leU pe_int (pe_callB (call_lenU K) rfl T.n_len (by decide +kernel) (pa_cons (pv 2) pa_nil)) (pv 1))) (pw_or1 (pt_cmpR (op_neU K hr.units) (pe_lc (own := [("sign", 3)]) (g := gName 3) rfl sc_read_whole.nd (pi_seqK K (pv 2)) (blkOk_by (N := ["text", "most", "figures", "sign"]) (sc := defScope s_read_whole) (by decide +kernel)) (fun _ _ _ _ _ => (pg_name (i := 3) sc_read_whole.nd rfl (Or.inl rfl))) (fun _ _ _ _ _ => pts_one (pt_cmpR (op_notinU K (hu65 hr)) (pv 3) (pe_gv rfl T.k_FIGURES) (by with_unfolding_all rfl))) (fun _ _ _ _ _ => (pv 3))) (pe_lst pa_nil) (nomark _)))))
 (pss_one (ps_raiseU rfl (L2N.takes_of rfl rfl rfl rfl) T.x_NoText rfl))
 pss_nil)
 (pss_cons (ps_if (PW.pt (pw_and (pt_cmpR (op_eqU K hr.units) (pe_ix (ix_U K (hu_of hr)) (pv 2) pe_int (fun _ _ => rfl)) pe_str (nomark _)) (pw_and1 (pt_cmpR (op_neU K hr.units) (pv 0) pe_str (nomark _)))))
 (pss_one (ps_raiseU rfl (L2N.takes_of rfl rfl rfl rfl) T.x_NoText rfl))
 pss_nil)
 (pss_one (ps_ret (pe_callTy call_intU rfl T.n_int (by decide +kernel) (pa_cons (pv 0) pa_nil)))))))), ?_⟩
  walk_at "i"
  walk_at "xs"
  refine w_cut (fun σ H => σ = [some (.str z), some (.int m), some (.str (figsOf z)), none] ∧ Sat H R) ?_ ?_
  · walk_at "xs"
    refine w_ite (fun h => ?_) (fun h => ?_)
    · walk_at "xs"
      refine ⟨?_, S⟩
      unfold figsOf
      rw [if_pos h]
      rfl
    · walk_at "xs"
      refine ⟨?_, S⟩
      unfold figsOf
      rw [if_neg h]
      rfl
  · rintro σ H ⟨rfl, S⟩
    have hl := figsOf_len z
    walk_at "xs"
    refine w_ite (fun a1 => ?_) (fun a1 => ?_)
    · walk_at "xs"
      refine w_iteN (fun a2 => ?_) (fun a2 => ?_)
      · walk_at "xs"
        exact kE (if_neg fun o => a2 o.2.1) H S
      · walk_at "xs"
        refine w_sqS ?_
        walk_at "xs"
        refine w_ssV (w_nots (by simp) (by omega) S fun D H S => ?_)
        refine w_lst (w_nil (w_newL S (by decide) fun p H _ S => ?_))
        refine w_neC (by walk_at "h") (by walk_at "h") (fun c h => hc c (figsOf_sub (List.mem_filter.mp h).1)) ?_
        replace S := S.to (Bs := R) (by walk_at "s")
        walk_at "xs"
        refine w_iteB (fun a3 => ?_) (fun a3 => ?_)
        · walk_at "xs"
          refine kE (if_neg fun o => ?_) H S
          have o3 : ((tl (figsOf z)).filter fun c => !decide (c ∈ tl ("0123456789" : Str))) = [] := o.2.2.1
          rw [o3] at a3
          cases a3
        · have o3 : notFigs (figsOf z) = [] := by
            cases e : notFigs (figsOf z) with
            | nil => rfl
            | cons c l =>
              have e2 : ((tl (figsOf z)).filter fun c => !decide (c ∈ tl ("0123456789" : Str))) = c :: l := e
              rw [e2] at a3
              cases a3
          obtain ⟨c, r, hcr⟩ : ∃ c r, tl (figsOf z) = c :: r := by
            cases e : tl (figsOf z) with
            | nil =>
              have := tl_len (figsOf z)
              rw [e] at this
              simp at this
              omega
            | cons c r => exact ⟨c, r, rfl⟩
          walk_at "xs"
          refine w_ixS (c := c) (by omega) ?_ ?_
          · show atI (tl (figsOf z)) 0 = some c
            rw [hcr]
            exact atI_nat (j := 0) rfl
          walk_at "xs"
          refine w_ite (fun a4 => ?_) (fun a4 => ?_)
          · have c48 : c = 48 := by
              have e : tl ("0" : Str) = [48] := by decide +kernel
              have q : [c] = [48] := (congrArg tl a4).trans e
              exact (List.cons.inj q).1
            walk_at "xs"
            refine w_iteN (fun a5 => ?_) (fun a5 => ?_)
            · walk_at "xs"
              exact kE (if_neg fun o => o.2.2.2 ⟨by rw [hcr, c48]; rfl, a5⟩) H S
            · have o : okW z m := ⟨by omega, a2, o3, fun h => h.2 a5⟩
              obtain ⟨n, hn⟩ := okW_some o hz
              walk_at "xs"
              exact ⟨_, rfl, n, hn, hz, k n (by unfold wholeOf; rw [if_pos o, hn]) H S⟩
          · have c48 : c ≠ 48 := fun e => a4 (by rw [e]; decide +kernel)
            have o : okW z m := ⟨by omega, a2, o3, fun h => c48 (by have := h.1; rw [hcr] at this; exact Option.some.inj this)⟩
            obtain ⟨n, hn⟩ := okW_some o hz
            walk_at "xs"
            exact ⟨_, rfl, n, hn, hz, k n (by unfold wholeOf; rw [if_pos o, hn]) H S⟩
    · walk_at "xs"
      exact kE (if_neg fun o => a1 (by have := o.1; omega)) H S
def ofO : Option Int → V
  | none => .non
  | some n => .int n
/-- _law_value(text, most) -/
def spValue : Sp := fun vs H Q _ => ∃ (z : Str) (m : Int) (R : List Res), vs = [.str z, .int m] ∧ z.length ≤ 640 ∧ (∀ c ∈ tl z, c < 1114112) ∧ Sat H R ∧ ∀ H', Sat H' R → Q (ofO (wholeOf z m)) H'
theorem figsOf_two {z : Str} {r : List Nat} {m : Int} (h : tl (figsOf z) = 48 :: r) : (1 < z.length ↔ z ≠ ("0" : Str)) := by
  have e0 : tl ("0" : Str) = [48] := by decide +kernel
  constructor
  · intro h1 e
    have := tl_len z
    rw [e, e0] at this
    simp at this
    rw [← e] at this
    omega
  · intro h1
    have hz := figsOf_len z
    have h2 := tl_len (figsOf z)
    rw [h, List.length_cons] at h2
    refine Nat.lt_of_le_of_ne (by omega) fun e => h1 (str_ext ?_)
    rw [e0]
    unfold figsOf at h
    split at h
    · rw [slice1n] at h
      have h3 : (tl z).drop 1 = 48 :: r := h
      have h4 := congrArg List.length h3
      rw [List.length_drop, tl_len, List.length_cons] at h4
      omega
    · have h4 := tl_len z
      rw [h, List.length_cons] at h4
      have : r = [] := List.eq_nil_of_length_eq_zero (by omega)
      rw [h, this]
theorem c__law_value (T : Txt K mg a_HouseError a_NoText a_NotFormed a_NoThing a_NoName a_Fixed a_Ring a_Shut) : Cl P w K mg base CX0 1 "_law_value" spValue := by
  refine T.f__law_value.cl sc__law_value (fun vs H Q E h => by obtain ⟨_, _, _, rfl, _⟩ := h; rfl) (fun f cdv A outer s H vs Q E hr h => ?_)
  obtain ⟨z, m, R, rfl, hz, hc, S, k⟩ := h
  have kn : ¬ okW z m → ∀ H', Sat H' R → Q .non H' := fun o H' S => by
    have := k H' S
    unfold wholeOf at this
    rw [if_neg o] at this
    exact this
  have ks : okW z m → ∀ H', Sat H' R → ∃ n, PySem.intText? z = some n ∧ Q (.int n) H' := fun o H' S => by
    obtain ⟨n, hn⟩ := okW_some o hz
    have := k H' S
    unfold wholeOf at this
    rw [if_pos o, hn] at this
    exact ⟨n, hn, this⟩
  refine ⟨_, (pss_cons (ps_set (i := 2) sc__law_value.nd rfl (Or.inl rfl) (pv 0))
 (C8.pss_cut (ps_if (pt_cmpR (op_eqU K hr.units) (pe_slice (sl_U K) (pv 0) po_none (po_some pe_int)) pe_str (nomark _))
 (pss_one (ps_set (i := 2) sc__law_value.nd rfl (Or.inl rfl) (pe_slice (sl_U K) (pv 0) (po_some pe_int) po_none)))
 pss_nil)
 (pss_cons (ps_if (PW.pt (pw_or (pt_cmpR (op_eqU K hr.units) (pv 2) pe_str (nomark _)) (pw_or (pt_cmpR op_gtU (pe_callB (call_lenU K) rfl T.n_len (by decide +kernel) (pa_cons (pv 2) pa_nil)) (pv 1) (nomark _)) (pw_or1 (pt_cmpR (op_neU K hr.units) (pe_lc (own := [("sign", 3)]) (g := gName 3) rfl sc__law_value.nd (pi_seqK K (pv 2)) (blkOk_by (N := ["text", "most", "figures", "sign"]) (sc := defScope s__law_value) (by decide +kernel)) (fun _ _ _ _ _ => (pg_name (i := 3) sc__law_value.nd rfl (Or.inl rfl))) (fun _ _ _ _ _ => pts_one (pt_cmpR (op_notinU K (hu65 hr)) (pv 3) pe_str (by with_unfolding_all rfl))) (fun _ _ _ _ _ => (pv 3))) (pe_lst pa_nil) (nomark _))))))
 (pss_one (ps_ret pe_non))
 pss_nil)
 (pss_cons (ps_if (PW.pt (pw_and (pt_cmpR (op_eqU K hr.units) (pe_ix (ix_U K (hu_of hr)) (pv 2) pe_int (fun _ _ => rfl)) pe_str (nomark _)) (pw_and1 (pt_cmpR op_gtU (pe_callB (call_lenU K) rfl T.n_len (by decide +kernel) (pa_cons (pv 0) pa_nil)) pe_int (nomark _)))))
 (pss_one (ps_ret pe_non))
 pss_nil)
 (pss_one (ps_ret (pe_callTy call_intU rfl T.n_int (by decide +kernel) (pa_cons (pv 0) pa_nil)))))))), ?_⟩
  walk_at "i"
  walk_at "xs"
  refine w_cut (fun σ H => σ = [some (.str z), some (.int m), some (.str (figsOf z)), none] ∧ Sat H R) ?_ ?_
  · walk_at "xs"
    refine w_ite (fun h => ?_) (fun h => ?_)
    · walk_at "xs"
      refine ⟨?_, S⟩
      unfold figsOf
      rw [if_pos h]
      rfl
    · walk_at "xs"
      refine ⟨?_, S⟩
      unfold figsOf
      rw [if_neg h]
      rfl
  · rintro σ H ⟨rfl, S⟩
    have hl := figsOf_len z
    walk_at "xs"
    refine w_ite (fun a1 => ?_) (fun a1 => ?_)
    · walk_at "xs"
      refine kn (fun o => ?_) H S
      have := o.1
      rw [a1] at this
      exact absurd this (by decide)
    · have n0 : 1 ≤ (figsOf z).length := by
        refine Nat.pos_of_ne_zero fun e => a1 (str_ext ?_)
        have := tl_len (figsOf z)
        rw [e] at this
        rw [List.eq_nil_of_length_eq_zero this]
        rfl
      walk_at "xs"
      refine w_ite (fun a2 => ?_) (fun a2 => ?_)
      · walk_at "xs"
        exact kn (fun o => by have := o.2.1; omega) H S
      · walk_at "xs"
        refine w_sqS ?_
        walk_at "xs"
        refine w_ssV (w_nots (by simp) (by omega) S fun D H S => ?_)
        refine w_lst (w_nil (w_newL S (by decide) fun p H _ S => ?_))
        refine w_neC (by walk_at "h") (by walk_at "h") (fun c h => hc c (figsOf_sub (List.mem_filter.mp h).1)) ?_
        replace S := S.to (Bs := R) (by walk_at "s")
        walk_at "xs"
        refine w_iteB (fun a3 => ?_) (fun a3 => ?_)
        · walk_at "xs"
          refine kn (fun o => ?_) H S
          have o3 : ((tl (figsOf z)).filter fun c => !decide (c ∈ tl ("0123456789" : Str))) = [] := o.2.2.1
          rw [o3] at a3
          cases a3
        · have o3 : notFigs (figsOf z) = [] := by
            cases e : notFigs (figsOf z) with
            | nil => rfl
            | cons c l =>
              have e2 : ((tl (figsOf z)).filter fun c => !decide (c ∈ tl ("0123456789" : Str))) = c :: l := e
              rw [e2] at a3
              cases a3
          obtain ⟨c, r, hcr⟩ : ∃ c r, tl (figsOf z) = c :: r := by
            cases e : tl (figsOf z) with
            | nil =>
              have := tl_len (figsOf z)
              rw [e] at this
              simp at this
              omega
            | cons c r => exact ⟨c, r, rfl⟩
          walk_at "xs"
          refine w_ixS (c := c) (by omega) ?_ ?_
          · show atI (tl (figsOf z)) 0 = some c
            rw [hcr]
            exact atI_nat (j := 0) rfl
          walk_at "xs"
          refine w_ite (fun a4 => ?_) (fun a4 => ?_)
          · have c48 : c = 48 := by
              have e : tl ("0" : Str) = [48] := by decide +kernel
              have q : [c] = [48] := (congrArg tl a4).trans e
              exact (List.cons.inj q).1
            have two := figsOf_two (m := m) (by rw [hcr, c48])
            walk_at "xs"
            refine w_ite (fun a5 => ?_) (fun a5 => ?_)
            · walk_at "xs"
              exact kn (fun o => o.2.2.2 ⟨by rw [hcr, c48]; rfl, two.mp (by omega)⟩) H S
            · have o : okW z m := ⟨n0, by omega, o3, fun h => a5 (by have := two.mpr h.2; omega)⟩
              obtain ⟨n, hn, q⟩ := ks o H S
              walk_at "xs"
              exact ⟨_, rfl, n, hn, hz, q⟩
          · have c48 : c ≠ 48 := fun e => a4 (by rw [e]; decide +kernel)
            have o : okW z m := ⟨n0, by omega, o3, fun h => c48 (by have := h.1; rw [hcr] at this; exact Option.some.inj this)⟩
            obtain ⟨n, hn, q⟩ := ks o H S
            walk_at "xs"
            exact ⟨_, rfl, n, hn, hz, q⟩
end
end Law
namespace Law
open PySem PySem.Spec PyProof.Rows L2 Q
/-- a sign -/
def spSign : Sp := fun vs H Q _ => ∃ (b : Addr) (R : List Res), vs = [.ref b] ∧ Sat H (BagA b [] :: R) ∧ ∀ c H', c < 128 → Sat H' (BagA b [] :: R) → Q (.str ⟨#[c]⟩) H'
/-- a text of at most n signs -/
def spTx (n : Nat) (ok : List V → Prop) : Sp := fun vs H Q _ => ∃ (b : Addr) (ws : List V) (R : List Res), vs = .ref b :: ws ∧ ok ws ∧ Sat H (BagA b [] :: R) ∧ ∀ z H', TxOk z n → Sat H' (BagA b [] :: R) → Q (.str z) H'
section
variable {P : Program} {w : World} {K : PySem.W.Frag} {mg : Str → Option Value} {base : Heap} {a_HouseError a_NoText a_NotFormed a_NoThing a_NoName a_Fixed a_Ring a_Shut : Addr}
theorem c__law_any_sign (T : Txt K mg a_HouseError a_NoText a_NotFormed a_NoThing a_NoName a_Fixed a_Ring a_Shut) : Cl P w K mg base CX0 2 "_law_any_sign" spSign := by
  have c__law_draw : Cl P w K mg base CX0 1 "_law_draw" spDraw := c__law_draw T
  refine T.f__law_any_sign.cl sc__law_any_sign (fun vs H Q E h => by obtain ⟨_, _, rfl, _⟩ := h; rfl) (fun f cdv A outer s H vs Q E hr h => ?_)
  obtain ⟨b, R, rfl, S, k⟩ := h
  refine ⟨_, (pss_cons (ps_set (i := 1) sc__law_any_sign.nd rfl (Or.inl rfl) pe_str)
 (pss_cons (ps_set (i := 1) sc__law_any_sign.nd rfl (Or.inl rfl) (pe_op (op_addU K) (pv 1) pe_str))
 (pss_cons (ps_if (pt_cmpR (op_eqU K hr.units) (pe_cl c__law_draw hr (by decide) pz0 rfl (pa_cons (pv 0) (pa_cons pe_int pa_nil))) pe_int (nomark _))
 (pss_one (ps_ret (pe_ix (ix_U K (hu_of hr)) (pv 1) (pe_cl c__law_draw hr (by decide) pz0 rfl (pa_cons (pv 0) (pa_cons pe_int pa_nil))) (fun _ _ => rfl))))
 pss_nil)
 (pss_one (ps_ret (pe_ix (ix_U K (hu_of hr)) (pv 1) (pe_cl c__law_draw hr (by decide) pz0 rfl (pa_cons (pv 0) (pa_cons pe_int pa_nil))) (fun _ _ => rfl))))))), ?_⟩
  walk_at "i"
  walk_at "xs"
  refine w_addSg (by decide +kernel) fun z hz => ?_
  have ok : z.length = 95 ∧ ∀ c ∈ tl z, c < 128 := by
    refine ⟨by rw [hz]; decide +kernel, ?_⟩
    have e : (tl z).all (fun c => decide (c < 128)) = true := by rw [hz]; decide +kernel
    exact fun c hc => of_decide_eq_true (List.all_eq_true.mp e c hc)
  clear hz
  walk_at "xs"
  refine w_draw S (by decide) (by decide) fun i H i0 i1 S => ?_
  walk_at "xs"
  refine w_ite (fun _ => ?_) (fun _ => ?_)
  · walk_at "xs"
    refine w_draw S (by decide) (by decide) fun i H i0 i1 S => ?_
    refine w_ixMS (by omega) i0 (by omega) fun c hc => ?_
    exact k c H (ok.2 c hc) S
  · walk_at "xs"
    refine w_draw S (by decide) (by decide) fun i H i0 i1 S => ?_
    refine w_ixMS (by omega) i0 (by omega) fun c hc => ?_
    exact k c H (ok.2 c hc) S
theorem c__law_word (T : Txt K mg a_HouseError a_NoText a_NotFormed a_NoThing a_NoName a_Fixed a_Ring a_Shut) : Cl P w K mg base CX0 3 "_law_word" (spTx 40 fun ws => ws = []) := by
  have c__law_draw : Cl P w K mg base CX0 1 "_law_draw" spDraw := c__law_draw T
  have c__law_any_sign : Cl P w K mg base CX0 2 "_law_any_sign" spSign := c__law_any_sign T
  refine T.f__law_word.cl sc__law_word (fun vs H Q E h => by obtain ⟨_, _, _, rfl, rfl, _⟩ := h; rfl) (fun f cdv A outer s H vs Q E hr h => ?_)
  obtain ⟨b, _, R, rfl, rfl, S, k⟩ := h
  refine ⟨_, (pss_cons (ps_set (i := 1) sc__law_word.nd rfl (Or.inl rfl) (pe_bmK K PySem.F.plainAttrs_str PySem.F.slot_str_join PySem.F.type_str_join (mt_joinU K) pe_str (pa_cons (pe_lc (own := [("k", 3)]) (g := gName 3) (tt := tYes) rfl sc__law_word.nd (pi_range1 rfl T.n_range (pa_cons (pe_cl c__law_draw hr (by decide) pz0 rfl (pa_cons (pv 0) (pa_cons pe_int pa_nil))) pa_nil)) (blkOk_by (N := ["bag", "text", "at", "k"]) (sc := defScope s__law_word) (by decide +kernel)) (fun _ _ _ _ _ => (pg_name (i := 3) sc__law_word.nd rfl (Or.inl rfl))) (fun _ _ _ _ _ => pts_nil) (fun _ _ _ _ _ => (pe_ix (ix_U K (hu_of hr)) pe_str (pe_cl c__law_draw hr (by decide) pz0 rfl (pa_cons (pv 0) (pa_cons pe_int pa_nil))) (fun _ _ => rfl)))) pa_nil)))
 (pss_cons (ps_set (i := 2) sc__law_word.nd rfl (Or.inl rfl) (pe_cl c__law_draw hr (by decide) pz0 rfl (pa_cons (pv 0) (pa_cons (pe_op (op_addU K) (pe_callB (call_lenU K) rfl T.n_len (by decide +kernel) (pa_cons (pv 1) pa_nil)) pe_int) pa_nil))))
 (pss_one (ps_ret (pe_op (op_addU K) (pe_op (op_addU K) (pe_slice (sl_U K) (pv 1) po_none (po_some (pv 2))) (pe_ix (ix_U K (hu_of hr)) (pe_lst (pa_cons pe_str (pa_cons (pe_cl c__law_any_sign hr (by decide) pz0 rfl (pa_cons (pv 0) pa_nil)) pa_nil))) (pe_cl c__law_draw hr (by decide) pz0 rfl (pa_cons (pv 0) (pa_cons pe_int pa_nil))) (fun _ _ => rfl))) (pe_slice (sl_U K) (pv 1) (po_some (pv 2)) po_none)))))), ?_⟩
  walk_at "i"
  walk_at "xs"
  refine w_draw S (by decide) (by decide) fun n H n0 n1 S => ?_
  refine w_r1V n0 (by omega) ?_
  refine w_lcK walk_range (by omega) (fun i acc => ∃ cs, acc = chrs cs ∧ ∀ c ∈ cs, c < 128) (fun _ _ => BagA b [] :: R) ⟨[], rfl, fun _ h => absurd h List.not_mem_nil⟩ S (fun _ _ _ _ _ _ => trivial) ?_ ?_
  · rintro i acc D x H H' hi hz hl ⟨cs, rfl, hc⟩ S ⟨rfl, rfl⟩
    walk_at "xs"
    refine ⟨rfl, ?_⟩
    walk_at "xs"
    refine w_draw (S.pick (by walk_at "pick")) (by decide) (by decide) fun i H i0 i1 S => ?_
    refine w_ixMS (by decide +kernel) i0 (by exact i1) fun c hc' => ?_
    refine w_el hl hz ⟨cs ++ [c], by unfold chrs; rw [List.map_append]; rfl, fun d hd => ?_⟩ (S.to (by walk_at "s"))
    rcases List.mem_append.mp hd with h | h
    · exact hc d h
    · rw [List.mem_singleton.mp h]
      have e : (tl (Str.ofString "abcdefghijklmnopqrstuvwxyz")).all (fun c => decide (c < 128)) = true := by decide +kernel
      exact of_decide_eq_true (List.all_eq_true.mp e c hc')
  · rintro D acc H hl ⟨cs, rfl, hc⟩ S
    have hcl : cs.length ≤ 11 := by
      have : (chrs cs).length = cs.length := by simp [chrs]
      omega
    refine w_nil (w_joinC (by walk_at "h") (by omega) ?_)
    have ok : TxOk (SX.S cs) 11 := .S hcl fun c h => by have := hc c h; omega
    generalize SX.S cs = z at ok
    have hz := ok.len
    replace S := S.to (Bs := BagA b [] :: R) (by walk_at "s")
    walk_at "xs"
    refine w_draw S (by omega) (by omega) fun at_ H a0 a1 S => ?_
    walk_at "xs"
    refine ⟨b, R, rfl, S, fun c H hc S => ?_⟩
    walk_at "xs"
    refine w_newL S (Nat.le_of_ble_eq_true rfl) fun p H _ S => ?_
    walk_at "xs"
    refine w_draw (S.pick (by walk_at "pick")) (by decide) (by decide) fun i H i0 i1 S => ?_
    refine w_ixM (by walk_at "h") i0 (by exact i1) fun v hv => ?_
    have hv2 : ∃ x, v = V.str x ∧ TxOk x 1 := by
      rcases List.mem_cons.mp hv with rfl | hv
      · exact ⟨_, rfl, txOk_by (by decide +kernel)⟩
      · rcases List.mem_cons.mp hv with rfl | hv
        · exact ⟨_, rfl, .one (by omega)⟩
        · cases hv
    obtain ⟨x, rfl, hx⟩ := hv2
    have l1 := (ok.to a0).len
    have l2 := (ok.from a0).len
    have l3 := hx.len
    refine w_addS (by omega) ?_
    walk_at "xs"
    have ok2 := ((ok.to a0).app hx).app (ok.from a0)
    refine w_addS (by have := ((ok.to a0).app hx).len; omega) ?_
    exact k _ H (ok2.mono (by decide)) (S.to (by walk_at "s"))
end
end Law
namespace Law
open PySem PySem.Spec PyProof.Rows L2 Q
def toldOf : Option Int → List V
  | none => [.bl true, .bl true, .bl false, .bl false]
  | some _ => []
/-- _law_read(text, most) -/
def spReadL : Sp := fun vs H Q _ => ∃ (z : Str) (m : Int) (R : List Res), vs = [.str z, .int m] ∧ z.length ≤ 640 ∧ (∀ c ∈ tl z, c < 1114112) ∧ Sat H R ∧
  ∀ p q H', Sat H' (sh p (.tup [ofO (wholeOf z m), .ref q]) :: pts q (.lst (toldOf (wholeOf z m))) :: R) → Q (.ref p) H'
section
variable {P : Program} {w : World} {K : PySem.W.Frag} {mg : Str → Option Value} {base : Heap} {a_HouseError a_NoText a_NotFormed a_NoThing a_NoName a_Fixed a_Ring a_Shut : Addr}
theorem c__law_read (T : Txt K mg a_HouseError a_NoText a_NotFormed a_NoThing a_NoName a_Fixed a_Ring a_Shut) : Cl P w K mg base CX0 2 "_law_read" spReadL := by
  have c_read_whole : Cl P w K mg base (L2N.CX P w) 1 "read_whole" (spRead a_NoText) := c_read_whole T
  refine T.f__law_read.cl sc__law_read (fun vs H Q E h => by obtain ⟨_, _, _, rfl, _⟩ := h; rfl) (fun f cdv A outer s H vs Q E hr h => ?_)
  obtain ⟨z, m, R, rfl, hz, hc, S, k⟩ := h
  refine ⟨_, (pss_cons (ps_set (i := 2) sc__law_read.nd rfl (Or.inl rfl) pe_non)
 (pss_cons (ps_set (i := 3) sc__law_read.nd rfl (Or.inl rfl) (pe_lst pa_nil))
 (pss_cons (L2N.ps_try_as (i := 4) rfl rfl sc__law_read.nd rfl rfl ⟨rfl, by decide, Or.inl T.x_HouseError.g⟩ takesN0 (fun W pn xe tk _ => by exact (pss_one (ps_set (i := 2) sc__law_read.nd rfl (Or.inl rfl) (pe_clS c_read_whole hr (by decide) (fun σ => L2N.passAt tk σ) rfl (pa_cons (pv 0) (pa_cons (pv 1) pa_nil))))))
 (fun a oe cls d pn hz hf => by exact (pss_cons (ps_set (i := 3) sc__law_read.nd rfl (Or.inl rfl) (pe_lst (pa_cons (pe_callB (call_isXK K (oe := oe) List.mem_cons_self hz.zc hf) rfl T.n_isinstance (by decide +kernel) (pa_cons (pv 4) (pa_cons (pe_bltn (v := .ty "ValueError") rfl T.n_ValueError (by decide +kernel) rfl) pa_nil))) (pa_cons (pe_callB (call_isXK K (oe := oe) List.mem_cons_self hz.zc hf) rfl T.n_isinstance (by decide +kernel) (pa_cons (pv 4) (pa_cons (pe_clsN rfl T.c_NoText) pa_nil))) (pa_cons (pe_callB (call_isXK K (oe := oe) List.mem_cons_self hz.zc hf) rfl T.n_isinstance (by decide +kernel) (pa_cons (pv 4) (pa_cons (pe_tup (pa_cons (pe_clsN rfl T.c_NotFormed) (pa_cons (pe_clsN rfl T.c_NoThing) (pa_cons (pe_clsN rfl T.c_NoName) pa_nil)))) pa_nil))) pa_nil)))))
 (pss_one (ps_expr (pe_bmK K PySem.F.plainAttrs_list PySem.F.slot_list_append PySem.F.type_list_append mt_append (pv 3) (pa_cons (pe_callB (call_isXK K (oe := oe) List.mem_cons_self hz.zc hf) rfl T.n_isinstance (by decide +kernel) (pa_cons (pv 4) (pa_cons (pe_tup (pa_cons (pe_clsN rfl T.c_Fixed) (pa_cons (pe_clsN rfl T.c_Ring) (pa_cons (pe_clsN rfl T.c_Shut) pa_nil)))) pa_nil))) pa_nil)))))))
 (pss_one (ps_ret (pe_tup (pa_cons (pv 2) (pa_cons (pv 3) pa_nil)))))))), ?_⟩
  walk_at "i"
  walk_at "xs"
  refine w_newL S (by decide) fun q H _ S => ?_
  walk_at "xs"
  refine ⟨z, m, _, rfl, hz, hc, S, fun n hn H S => ?_, fun hn H S => ?_⟩
  · rw [hn] at k
    walk_at "xs"
    exact w_nT S fun p H _ S => k p q H S
  · rw [hn] at k
    refine w_as T.h_NoText_HouseError fun a ha => ?_
    walk_at "xs"
    refine w_isX T.e_NoText (.ty _) T.i_NoText_ValueError ?_
    walk_at "xs"
    refine w_isX T.e_NoText (.own _) T.i_NoText_NoText ?_
    walk_at "xs"
    refine w_nT S fun p H _ S => ?_
    walk_at "xs"
    refine w_isXT T.e_NoText (by walk_at "h") (.cons (.own _) (.cons (.own _) (.cons (.own _) .nil))) (kit_no T.i_NoText_NotFormed (kit_no T.i_NoText_NoThing (kit_no T.i_NoText_NoName rfl))) ?_
    walk_at "xs"
    refine w_nL S fun r H _ S => ?_
    walk_at "xs"
    refine w_nT S fun p H _ S => ?_
    walk_at "xs"
    refine w_isXT T.e_NoText (by walk_at "h") (.cons (.own _) (.cons (.own _) (.cons (.own _) .nil))) (kit_no T.i_NoText_Fixed (kit_no T.i_NoText_Ring (kit_no T.i_NoText_Shut rfl))) ?_
    walk_at "xs"
    refine p_app S (by walk_at "pick") (Nat.le_of_ble_eq_true rfl) fun H (S : Sat H (pts r (.lst (toldOf none)) :: _)) => ?_
    walk_at "xs"
    exact w_nT S fun p H _ (S : Sat H (sh p (.tup [ofO none, .ref r]) :: _)) => k p r H (S.to (by walk_at "s"))
theorem c__law_text (T : Txt K mg a_HouseError a_NoText a_NotFormed a_NoThing a_NoName a_Fixed a_Ring a_Shut) : Cl P w K mg base CX0 2 "_law_text" (spTx 400 fun ws => ∃ m, ws = [.int m] ∧ 1 ≤ m ∧ m ≤ 300) := by
  have c__law_draw : Cl P w K mg base CX0 1 "_law_draw" spDraw := c__law_draw T
  refine T.f__law_text.cl sc__law_text (fun vs H Q E h => by obtain ⟨_, _, _, rfl, ⟨_, rfl, _⟩, _⟩ := h; rfl) (fun f cdv A outer s H vs Q E hr h => ?_)
  obtain ⟨b, _, R, rfl, ⟨m, rfl, m0, m1⟩, S, k⟩ := h
  refine ⟨_, (pss_cons (ps_set (i := 2) sc__law_text.nd rfl (Or.inl rfl) (pe_ix (ix_U K (hu_of hr)) (pe_lst (pa_cons (pe_cl c__law_draw hr (by decide) pz0 rfl (pa_cons (pv 0) (pa_cons pe_int pa_nil))) (pa_cons (pe_op (op_addU K) pe_int (pe_cl c__law_draw hr (by decide) pz0 rfl (pa_cons (pv 0) (pa_cons pe_int pa_nil)))) pa_nil))) (pe_cl c__law_draw hr (by decide) pz0 rfl (pa_cons (pv 0) (pa_cons pe_int pa_nil))) (fun _ _ => rfl)))
 (pss_cons (ps_set (i := 3) sc__law_text.nd rfl (Or.inl rfl) (pe_ix (ix_U K (hu_of hr)) (pe_lst (pa_cons (pv 1) (pa_cons (pe_op (op_addU K) (pv 1) pe_int) (pa_cons (pe_callB (call_max2U rfl) rfl T.n_max (by decide +kernel) (pa_cons pe_int (pa_cons (pe_op op_subU (pv 1) pe_int) pa_nil))) (pa_cons (pv 2) (pa_cons (pv 2) pa_nil)))))) (pe_cl c__law_draw hr (by decide) pz0 rfl (pa_cons (pv 0) (pa_cons pe_int pa_nil))) (fun _ _ => rfl)))
 (C8.pss_cut (ps_set (i := 4) sc__law_text.nd rfl (Or.inl rfl) (pe_bmK K PySem.F.plainAttrs_str PySem.F.slot_str_join PySem.F.type_str_join (mt_joinU K) pe_str (pa_cons (pe_lc (own := [("k", 6)]) (g := gName 6) (tt := tYes) rfl sc__law_text.nd (pi_range1 rfl T.n_range (pa_cons (pv 3) pa_nil)) (blkOk_by (N := ["bag", "most", "few", "many", "text", "at", "k"]) (sc := defScope s__law_text) (by decide +kernel)) (fun _ _ _ _ _ => (pg_name (i := 6) sc__law_text.nd rfl (Or.inl rfl))) (fun _ _ _ _ _ => pts_nil) (fun _ _ _ _ _ => (pe_ix (ix_U K (hu_of hr)) pe_str (pe_cl c__law_draw hr (by decide) pz0 rfl (pa_cons (pv 0) (pa_cons pe_int pa_nil))) (fun _ _ => rfl)))) pa_nil)))
 (C8.pss_cut (ps_if (PW.pt (pw_and (pt_cmpR op_gtU (pe_cl c__law_draw hr (by decide) pz0 rfl (pa_cons (pv 0) (pa_cons pe_int pa_nil))) pe_int (nomark _)) (pw_and1 (pt_cmpR (op_eqU K hr.units) (pe_slice (sl_U K) (pv 4) po_none (po_some pe_int)) pe_str (nomark _)))))
 (pss_one (ps_set (i := 4) sc__law_text.nd rfl (Or.inl rfl) (pe_op (op_addU K) pe_str (pe_slice (sl_U K) (pv 4) (po_some pe_int) po_none))))
 pss_nil)
 (C8.pss_cut (ps_if (pt_cmpR (op_eqU K hr.units) (pe_cl c__law_draw hr (by decide) pz0 rfl (pa_cons (pv 0) (pa_cons pe_int pa_nil))) pe_int (nomark _))
 (pss_one (ps_set (i := 4) sc__law_text.nd rfl (Or.inl rfl) (pe_op (op_addU K) pe_str (pv 4))))
 pss_nil)
 (C8.pss_cut (ps_if (pt_cmpR (op_eqU K hr.units) (pe_cl c__law_draw hr (by decide) pz0 rfl (pa_cons (pv 0) (pa_cons pe_int pa_nil))) pe_int (nomark _))
 (pss_cons (ps_set (i := 5) sc__law_text.nd rfl (Or.inl rfl) (pe_ix (ix_U K (hu_of hr)) (pe_lst (pa_cons pe_int (pa_cons (pe_callB (call_lenU K) rfl T.n_len (by decide +kernel) (pa_cons (pv 4) pa_nil)) (pa_cons (pe_cl c__law_draw hr (by decide) pz0 rfl (pa_cons (pv 0) (pa_cons (pe_op (op_addU K) (pe_callB (call_lenU K) rfl T.n_len (by decide +kernel) (pa_cons (pv 4) pa_nil)) pe_int) pa_nil))) pa_nil)))) (pe_cl c__law_draw hr (by decide) pz0 rfl (pa_cons (pv 0) (pa_cons pe_int pa_nil))) (fun _ _ => rfl)))
 (pss_one (ps_set (i := 4) sc__law_text.nd rfl (Or.inl rfl) (pe_op (op_addU K) (pe_op (op_addU K) (pe_slice (sl_U K) (pv 4) po_none (po_some (pv 5))) (pe_ix (ix_U K (hu_of hr)) (pe_lst (pa_cons pe_str (pa_cons pe_str (pa_cons pe_str (pa_cons pe_str (pa_cons pe_str (pa_cons pe_str (pa_cons pe_str (pa_cons pe_str pa_nil))))))))) (pe_cl c__law_draw hr (by decide) pz0 rfl (pa_cons (pv 0) (pa_cons pe_int pa_nil))) (fun _ _ => rfl))) (pe_slice (sl_U K) (pv 4) (po_some (pv 5)) po_none)))))
 pss_nil)
 (pss_one (ps_ret (pv 4))))))))), ?_⟩
  walk_at "i"
  walk_at "xs"
  refine w_draw S (by decide) (by decide) fun i1 H a1 b1 S => ?_
  walk_at "xs"
  refine w_draw S (by decide) (by decide) fun i2 H a2 b2 S => ?_
  walk_at "xs"
  refine w_one S (by walk_at "pick") (isI 0 310) ⟨⟨_, rfl, by omega, by omega⟩, ⟨_, rfl, by omega, by omega⟩, trivial⟩ fun _ H ⟨few, e, f0, f1⟩ S => ?_
  cases e
  walk_at "xs"
  refine w_one S (by walk_at "pick") (isI 0 310) ⟨⟨_, rfl, by omega, by omega⟩, ⟨_, rfl, by omega, by omega⟩, ⟨_, rfl, by omega, by omega⟩, ⟨_, rfl, by omega, by omega⟩, ⟨_, rfl, by omega, by omega⟩, trivial⟩ fun _ H ⟨many, e, n0, n1⟩ S => ?_
  cases e
  walk_at "xs"
  refine w_cut (fun σ H => ∃ z, σ = [some (.ref b), some (.int m), some (.int few), some (.int many), some (.str z), none, none] ∧ TxOk z 310 ∧ Sat H (BagA b [] :: R)) ?_ ?_
  · walk_at "xs"
    refine w_r1V n0 (by omega) ?_
    refine w_lcK walk_range (by omega) (fun i acc => ∃ cs, acc = chrs cs ∧ ∀ c ∈ cs, c < 128) (fun _ _ => BagA b [] :: R) ⟨[], rfl, fun _ h => absurd h List.not_mem_nil⟩ S (fun _ _ _ _ _ _ => trivial) ?_ ?_
    · rintro i acc D x H H' hi hz hl ⟨cs, rfl, hc⟩ S ⟨rfl, rfl⟩
      walk_at "xs"
      refine ⟨rfl, ?_⟩
      walk_at "xs"
      refine w_draw (S.pick (by walk_at "pick")) (by decide) (by decide) fun i H i0 i1 S => ?_
      refine w_ixMS (by decide +kernel) i0 (by exact i1) fun c hc' => ?_
      refine w_el hl hz ⟨cs ++ [c], by unfold chrs; rw [List.map_append]; rfl, fun d hd => ?_⟩ (S.to (by walk_at "s"))
      rcases List.mem_append.mp hd with h | h
      · exact hc d h
      · rw [List.mem_singleton.mp h]
        have e : (tl (Str.ofString "0123456789")).all (fun c => decide (c < 128)) = true := by decide +kernel
        exact of_decide_eq_true (List.all_eq_true.mp e c hc')
    · rintro D acc H hl ⟨cs, rfl, hc⟩ S
      have hcl : cs.length ≤ 310 := by
        have : (chrs cs).length = cs.length := by simp [chrs]
        omega
      refine w_nil (w_joinC (by walk_at "h") (by omega) ?_)
      walk_at "xs"
      exact ⟨_, rfl, .S hcl fun c h => by have := hc c h; omega, S.to (by walk_at "s")⟩
  rintro σ H ⟨z, rfl, ok, S⟩
  refine w_cut (fun σ H => ∃ z, σ = [some (.ref b), some (.int m), some (.int few), some (.int many), some (.str z), none, none] ∧ TxOk z 310 ∧ Sat H (BagA b [] :: R)) ?_ ?_
  · have hz := ok.len
    walk_at "xs"
    refine w_draw S (by omega) (by omega) fun i5 H a5 b5 S => ?_
    walk_at "xs"
    refine w_ite (fun h1 => ?_) (fun h1 => ?_)
    · walk_at "xs"
      refine w_ite (fun h2 => ?_) (fun h2 => ?_)
      · walk_at "xs"
        have l := (ok.from (i := 1) (by decide)).len
        refine w_addS (by have : (Str.ofString "7").length = 1 := by decide +kernel
                          omega) ?_
        walk_at "xs"
        refine ⟨_, rfl, ?_, S⟩
        have l2 := len_to_from (y := z) (i := 1) (by decide)
        have l3 : (Txt.slice z none (some 1)).length = 1 := by rw [h2]; decide +kernel
        have t := (txOk_by (z := Str.ofString "7") (n := 1) (by decide +kernel)).app (ok.from (i := 1) (by decide))
        have e7 : (Str.ofString "7").length = 1 := by decide +kernel
        refine ⟨?_, t.sg⟩
        have e := tl_len (Str.ofString "7" ++ Txt.slice z (some 1) none)
        rw [tl_app, List.length_append, tl_len, tl_len] at e
        omega
      · walk_at "xs"
        exact ⟨_, rfl, ok, S⟩
    · walk_at "xs"
      exact ⟨_, rfl, ok, S⟩
  rintro σ H ⟨z, rfl, ok, S⟩
  refine w_cut (fun σ H => ∃ z, σ = [some (.ref b), some (.int m), some (.int few), some (.int many), some (.str z), none, none] ∧ TxOk z 311 ∧ Sat H (BagA b [] :: R)) ?_ ?_
  · have hz := ok.len
    walk_at "xs"
    refine w_draw S (by omega) (by omega) fun i5 H a5 b5 S => ?_
    walk_at "xs"
    refine w_ite (fun h1 => ?_) (fun h1 => ?_)
    · walk_at "xs"
      refine w_addS (by have : (Str.ofString "-").length = 1 := by decide +kernel
                        omega) ?_
      walk_at "xs"
      exact ⟨_, rfl, ((txOk_by (z := Str.ofString "-") (n := 1) (by decide +kernel)).app ok).mono (by decide), S⟩
    · walk_at "xs"
      exact ⟨_, rfl, ok.mono (by decide), S⟩
  rintro σ H ⟨z, rfl, ok, S⟩
  refine w_cut (fun σ H => ∃ z at_, σ = [some (.ref b), some (.int m), some (.int few), some (.int many), some (.str z), at_, none] ∧ TxOk z 400 ∧ Sat H (BagA b [] :: R)) ?_ ?_
  · have hz := ok.len
    walk_at "xs"
    refine w_draw S (by omega) (by omega) fun i5 H a5 b5 S => ?_
    walk_at "xs"
    refine w_ite (fun h1 => ?_) (fun h1 => ?_)
    · walk_at "xs"
      refine w_draw S (by omega) (by omega) fun i6 H a6 b6 S => ?_
      walk_at "xs"
      refine w_one S (by walk_at "pick") (isI 0 z.length) ⟨⟨_, rfl, by omega, by omega⟩, ⟨_, rfl, by omega, by omega⟩, ⟨_, rfl, by omega, by omega⟩, trivial⟩ fun _ H ⟨at_, e, p0, p1⟩ S => ?_
      cases e
      walk_at "xs"
      refine w_one S (by walk_at "pick") (fun v => ∃ x, v = .str x ∧ TxOk x 1) ⟨⟨_, rfl, txOk_by (by decide +kernel)⟩, ⟨_, rfl, txOk_by (by decide +kernel)⟩, ⟨_, rfl, txOk_by (by decide +kernel)⟩, ⟨_, rfl, txOk_by (by decide +kernel)⟩, ⟨_, rfl, txOk_by (by decide +kernel)⟩, ⟨_, rfl, txOk_by (by decide +kernel)⟩, ⟨_, rfl, txOk_by (by decide +kernel)⟩, ⟨_, rfl, txOk_by (by decide +kernel)⟩, trivial⟩ fun _ H ⟨x, e, hx⟩ S => ?_
      cases e
      have l1 := (ok.to p0).len
      have l2 := (ok.from p0).len
      have l3 := hx.len
      refine w_addS (by omega) ?_
      walk_at "xs"
      have ok2 := ((ok.to p0).app hx).app (ok.from p0)
      have l4 := ((ok.to p0).app hx).len
      refine w_addS (by omega) ?_
      walk_at "xs"
      refine ⟨_, _, rfl, ⟨?_, ok2.sg⟩, S⟩
      have e1 := tl_len (Txt.slice z none (some at_) ++ x ++ Txt.slice z (some at_) none)
      have e2 := tl_len (Txt.slice z none (some at_) ++ x)
      rw [tl_app, List.length_append, tl_len, tl_len] at e1 e2
      have e3 := len_to_from (y := z) p0
      omega
    · walk_at "xs"
      exact ⟨_, _, rfl, ok.mono (by decide), S⟩
  rintro σ H ⟨z, at_, rfl, ok, S⟩
  walk_at "xs"
  exact k z H ok S
end
end Law
namespace Law
open PySem PySem.Spec PyProof.Rows L2 Q
/-- law(script) -/
def spLaw (K : PySem.W.Frag) : Sp := fun vs H Q _ => ∃ (a : Addr) (ns : List Int) (R : List Res), vs = [.ref a] ∧ ns.length ≤ 63 ∧ Sat H (scr K a (ns.map V.int) :: R) ∧ ∀ H', Q (.bl true) H'
section
variable {P : Program} {w : World} {K : PySem.W.Frag} {mg : Str → Option Value} {base : Heap} {a_HouseError a_NoText a_NotFormed a_NoThing a_NoName a_Fixed a_Ring a_Shut : Addr}
theorem ok_law {f : Addr} {fd : FuncData} (F : Fun K "law" "law" s_law f fd) (T : Txt K mg a_HouseError a_NoText a_NotFormed a_NoThing a_NoName a_Fixed a_Ring a_Shut) : FnOk P w K mg base CX0 4 f fd ["script"] (spLaw K) := by
  have c__law_bag : Cl P w K mg base CX0 1 "_law_bag" (spBag K) := c__law_bag T
  have c__law_draw : Cl P w K mg base CX0 1 "_law_draw" spDraw := c__law_draw T
  have c__law_text : Cl P w K mg base CX0 2 "_law_text" (spTx 400 fun ws => ∃ m, ws = [.int m] ∧ 1 ≤ m ∧ m ≤ 300) := c__law_text T
  have c__law_read : Cl P w K mg base CX0 2 "_law_read" spReadL := c__law_read T
  have c__law_value : Cl P w K mg base CX0 1 "_law_value" spValue := c__law_value T
  have c__law_word : Cl P w K mg base CX0 3 "_law_word" (spTx 40 fun ws => ws = []) := c__law_word T
  have c_is_name : Cl P w K mg base CX0 1 "is_name" spName := c_is_name T
  have c__law_name_due : Cl P w K mg base CX0 1 "_law_name_due" spName := c__law_name_due T
  refine F.ok sc_law (fun vs H Q E h => by obtain ⟨_, _, _, rfl, _⟩ := h; rfl) (fun cdv A outer s H vs Q E hr h => ?_)
  obtain ⟨a, ns, R, rfl, hn, S, k⟩ := h
  refine ⟨_, (pss_cons (ps_set (i := 1) sc_law.nd rfl (Or.inl rfl) (pe_cl c__law_bag hr (by decide) pz0 rfl (pa_cons (pv 0) pa_nil)))
 (pss_cons (ps_for PassesOwn.never rfl (pi_range1 rfl T.n_range (pa_cons (pe_op (op_addU K) pe_int (pe_cl c__law_draw hr (by decide) pz0 rfl (pa_cons (pv 1) (pa_cons pe_int pa_nil)))) pa_nil)) (pg_name (i := 2) sc_law.nd rfl (Or.inl rfl))
 (pss_cons (ps_set (i := 3) sc_law.nd rfl (Or.inl rfl) (pe_ix (ix_U K (hu_of hr)) (pe_lst (pa_cons (pe_op (op_addU K) pe_int (pe_cl c__law_draw hr (by decide) pz0 rfl (pa_cons (pv 1) (pa_cons pe_int pa_nil)))) (pa_cons pe_int (pa_cons (pe_op (op_addU K) pe_int (pe_cl c__law_draw hr (by decide) pz0 rfl (pa_cons (pv 1) (pa_cons pe_int pa_nil)))) (pa_cons pe_int pa_nil))))) (pe_cl c__law_draw hr (by decide) pz0 rfl (pa_cons (pv 1) (pa_cons pe_int pa_nil))) (fun _ _ => rfl)))
 (pss_cons (ps_set (i := 4) sc_law.nd rfl (Or.inl rfl) (pe_ix (ix_U K (hu_of hr)) (pe_lst (pa_cons pe_str (pa_cons pe_str (pa_cons pe_str (pa_cons pe_str (pa_cons pe_str (pa_cons pe_str pa_nil))))))) (pe_cl c__law_draw hr (by decide) pz0 rfl (pa_cons (pv 1) (pa_cons pe_int pa_nil))) (fun _ _ => rfl)))
 (pss_cons (ps_set (i := 5) sc_law.nd rfl (Or.inl rfl) (pe_ix (ix_U K (hu_of hr)) (pe_lst (pa_cons (pe_cl c__law_text hr (by decide) pz0 rfl (pa_cons (pv 1) (pa_cons (pv 3) pa_nil))) (pa_cons (pv 4) pa_nil))) (pe_op op_divU (pe_cl c__law_draw hr (by decide) pz0 rfl (pa_cons (pv 1) (pa_cons pe_int pa_nil))) pe_int) (fun _ _ => rfl)))
 (pss_cons (ps_for PassesOwn.never rfl (pi_seqK K (pe_lst (pa_cons (pv 3) (pa_cons (pe_callB (call_min2U rfl) rfl T.n_min (by decide +kernel) (pa_cons pe_int (pa_cons (pe_op (op_addU K) (pv 3) pe_int) pa_nil))) (pa_cons (pe_callB (call_max2U rfl) rfl T.n_max (by decide +kernel) (pa_cons pe_int (pa_cons (pe_op op_subU (pv 3) pe_int) pa_nil))) (pa_cons (pv 3) pa_nil)))))) (pg_name (i := 6) sc_law.nd rfl (Or.inl rfl))
 (pss_cons (ps_asg (pe_cl c__law_read hr (by decide) pz0 rfl (pa_cons (pv 5) (pa_cons (pv 6) pa_nil))) (pg_tupK K rfl (pgs_cons (pg_name (i := 7) sc_law.nd rfl (Or.inl rfl)) (pgs_cons (pg_name (i := 8) sc_law.nd rfl (Or.inl rfl)) pgs_nil))))
 (pss_cons (ps_set (i := 9) sc_law.nd rfl (Or.inl rfl) (pe_cl c__law_value hr (by decide) pz0 rfl (pa_cons (pv 5) (pa_cons (pv 6) pa_nil))))
 (pss_cons (ps_if (PW.pt (pw_and (pt_cmpR op_isU (pv 9) pe_non (nomark _)) (pw_and1 (PW.pt (pw_or (pt_cmpR op_isnotU (pv 7) pe_non (nomark _)) (pw_or1 (pt_cmpR (op_neU K hr.units) (pv 8) (pe_lst (pa_cons pe_bl (pa_cons pe_bl (pa_cons pe_bl (pa_cons pe_bl pa_nil))))) (nomark _))))))))
 (pss_one ps_never)
 pss_nil)
 (pss_cons (ps_if (PW.pt (pw_and (pt_cmpR op_isnotU (pv 9) pe_non (nomark _)) (pw_and1 (PW.pt (pw_or (pt_cmpR (op_neU K hr.units) (pv 8) (pe_lst pa_nil) (nomark _)) (pw_or1 (pt_cmpR (op_neU K hr.units) (pv 7) (pv 9) (nomark _))))))))
 (pss_one ps_never)
 pss_nil)
 (pss_one (ps_if (PW.pt (pw_and (pt_cmpR op_isnotU (pv 9) pe_non (nomark _)) (pw_and1 (PW.pt (pw_or (pt_truK K (pe_callB (call_isiU K) rfl T.n_isinstance (by decide +kernel) (pa_cons (pv 7) (pa_cons (pe_bltn (v := .ty "bool") rfl T.n_bool (by decide +kernel) rfl) pa_nil))) (fun _ => rfl)) (pw_or1 (pt_not (pt_truK K (pe_callB (call_isiU K) rfl T.n_isinstance (by decide +kernel) (pa_cons (pv 7) (pa_cons (pe_bltn (v := .ty "int") rfl T.n_int (by decide +kernel) rfl) pa_nil))) (fun _ => rfl)))))))))
 (pss_one ps_never)
 pss_nil)))))))
 (pss_cons (ps_set (i := 10) sc_law.nd rfl (Or.inl rfl) (pe_cl c__law_word hr (by decide) pz0 rfl (pa_cons (pv 1) pa_nil)))
 (pss_cons (ps_set (i := 7) sc_law.nd rfl (Or.inl rfl) (pe_cl c_is_name hr (by decide) pz0 rfl (pa_cons (pv 10) pa_nil)))
 (pss_one (ps_if (PW.pt (pw_or (pt_not (pt_truK K (pe_callB (call_isiU K) rfl T.n_isinstance (by decide +kernel) (pa_cons (pv 7) (pa_cons (pe_bltn (v := .ty "bool") rfl T.n_bool (by decide +kernel) rfl) pa_nil))) (fun _ => rfl))) (pw_or (pt_cmpR (op_neU K hr.units) (pv 7) (pe_cl c__law_name_due hr (by decide) pz0 rfl (pa_cons (pv 10) pa_nil)) (nomark _)) (pw_or1 (pt_cmpR op_isnotU (pe_cl c_is_name hr (by decide) pz0 rfl (pa_cons pe_str pa_nil)) pe_bl (nomark _))))))
 (pss_one ps_never)
 pss_nil)))))))))
 (pss_one (ps_ret pe_bl)))), ?_⟩
  walk_at "i"
  walk_at "xs"
  refine ⟨a, ns, R, rfl, hn, S, fun b H S => ?_⟩
  walk_at "xs"
  refine w_draw S (by decide) (by decide) fun n H n0 n1 S => ?_
  walk_at "xs"
  refine w_r1V (by omega) (by omega) ?_
  refine w_forK walk_range (fun i σ H => ∃ v2 v3 v4 v5 v6 v7 v8 v9 v10, σ = [some (.ref a), some (.ref b), v2, v3, v4, v5, v6, v7, v8, v9, v10] ∧ Sat H (BagA b [] :: R)) ⟨_, _, _, _, _, _, _, _, _, rfl, S⟩ (fun _ _ _ _ _ => trivial) ?_ ?_
  · rintro i' x σ H H' hi ⟨v2, v3, v4, v5, v6, v7, v8, v9, v10, rfl, S⟩ ⟨rfl, rfl⟩
    walk_at "xs"
    refine w_draw S (by decide) (by decide) fun i1 H a1 b1 S => ?_
    walk_at "xs"
    refine w_draw S (by decide) (by decide) fun i2 H a2 b2 S => ?_
    walk_at "xs"
    refine w_one S (by walk_at "pick") (isI 1 300) ⟨⟨_, rfl, by omega, by omega⟩, ⟨_, rfl, by omega, by omega⟩, ⟨_, rfl, by omega, by omega⟩, ⟨_, rfl, by omega, by omega⟩, trivial⟩ fun _ H ⟨most, e, m0, m1⟩ S => ?_
    cases e
    walk_at "xs"
    refine w_one S (by walk_at "pick") (fun v => ∃ x, v = .str x ∧ TxOk x 3) ⟨⟨_, rfl, txOk_by (by decide +kernel)⟩, ⟨_, rfl, txOk_by (by decide +kernel)⟩, ⟨_, rfl, txOk_by (by decide +kernel)⟩, ⟨_, rfl, txOk_by (by decide +kernel)⟩, ⟨_, rfl, txOk_by (by decide +kernel)⟩, ⟨_, rfl, txOk_by (by decide +kernel)⟩, trivial⟩ fun _ H ⟨few, e, hf⟩ S => ?_
    cases e
    walk_at "xs"
    refine ⟨b, _, R, rfl, ⟨most, rfl, m0, m1⟩, S, fun t1 H ht1 S => ?_⟩
    walk_at "xs"
    refine w_nL S fun p H _ S => ?_
    walk_at "xs"
    refine w_draw (S.pick (by walk_at "pick")) (by decide) (by decide) fun i3 H a3 b3 S => ?_
    walk_at "xs"
    refine w_div (cdiv (by decide) (le_big (by decide))) ?_
    refine w_ixP (fun v => ∃ x, v = .str x ∧ TxOk x 400) S.drop.read (by omega) (by show _ < (2 : Int); omega) ⟨⟨_, rfl, ht1⟩, ⟨_, rfl, hf.mono (by decide)⟩, trivial⟩ fun _ ⟨text, e, ht⟩ => ?_
    cases e
    replace S := S.to (Bs := BagA b [] :: R) (by walk_at "s")
    have htl := ht.len
    walk_at "xs"
    refine w_sqL ?_
    walk_at "xs"
    refine w_nLS S fun p H _ S => ?_
    walk_at "xs"
    refine w_slV (by walk_at "h") ?_
    refine w_forK (walk_list (K := K) (a := p)) (fun i σ H => ∃ v6 v7 v8 v9, σ = [some (.ref a), some (.ref b), some (.int (0 + ↑i')), some (.int most), some (.str few), some (.str text), v6, v7, v8, v9, v10] ∧ Sat H (sh p (.lst [.int most, .int (if most + 1 < 300 then most + 1 else 300), .int (if most - 1 > 1 then most - 1 else 1), .int most]) :: BagA b [] :: R)) ⟨_, _, _, _, rfl, S⟩ (fun i σ H _ ⟨_, _, _, _, _, S⟩ => .of S.readS) ?_ ?_
    · rintro i x σ H H' hi ⟨v6, v7, v8, v9, rfl, S⟩ ⟨rfl, hx⟩
      obtain ⟨bd, rfl, d0, d1⟩ := (show EachP (isI 1 300) [.int most, .int (if most + 1 < 300 then most + 1 else 300), .int (if most - 1 > 1 then most - 1 else 1), .int most] from ⟨⟨_, rfl, by omega, by omega⟩, ⟨_, rfl, by omega, by omega⟩, ⟨_, rfl, by omega, by omega⟩, ⟨_, rfl, by omega, by omega⟩, trivial⟩).of x (List.mem_of_getElem? hx)
      walk_at "xs"
      refine ⟨text, bd, _, rfl, by omega, ht.sg, S, fun q r H S => ?_⟩
      walk_at "xs"
      refine ⟨text, bd, _, rfl, by omega, ht.sg, S, fun H S => ?_⟩
      walk_at "xs"
      cases hw : wholeOf text bd with
      | none =>
        rw [hw] at S
        replace S : Sat H (sh q (.tup [.non, .ref r]) :: pts r (.lst [.bl true, .bl true, .bl false, .bl false]) :: _) := S
        refine w_yes rfl ?_
        walk_at "xs"
        refine w_noN rfl ?_
        walk_at "xs"
        refine w_nL S fun q H _ S => ?_
        refine w_neD (r := true) (.lst (.of (by walk_at "h")) (.cons (.bl _) (.cons (.bl _) (.cons (.bl _) (.cons (.bl _) .nil))))) (.lst (.of (by walk_at "h")) (.cons (.bl _) (.cons (.bl _) (.cons (.bl _) (.cons (.bl _) .nil))))) (by decide) (by decide) (by decide) ?_
        walk_at "xs"
        refine w_noN rfl ?_
        walk_at "xs"
        refine w_noN rfl ?_
        walk_at "xs"
        exact ⟨_, _, _, _, rfl, S.to (by walk_at "s")⟩
      | some n =>
        rw [hw] at S
        replace S : Sat H (sh q (.tup [.int n, .ref r]) :: pts r (.lst []) :: _) := S
        dsimp only [ofO]
        refine w_no (fun e => nomatch e) ?_
        walk_at "xs"
        refine w_yesN (fun e => nomatch e) ?_
        walk_at "xs"
        refine w_nL S fun q H _ S => ?_
        refine w_neD (r := true) (.lst (.of (by walk_at "h")) .nil) (.lst (.of (by walk_at "h")) .nil) (by decide) (by decide) (by decide) ?_
        walk_at "xs"
        refine w_noN rfl ?_
        walk_at "xs"
        refine w_yesN (fun e => nomatch e) ?_
        walk_at "xs"
        refine w_isi (.int _) (r := false) rfl ?_
        walk_at "xs"
        refine w_isi (.int _) (r := true) rfl ?_
        walk_at "xs"
        exact ⟨_, _, _, _, rfl, S.to (by walk_at "s")⟩
    · rintro σ H ⟨v6, v7, v8, v9, rfl, S⟩
      walk_at "xs"
      refine ⟨b, [], _, rfl, rfl, S.pick (A := BagA b []) (by walk_at "pick"), fun z H hz S => ?_⟩
      have hzl := hz.len
      walk_at "xs"
      refine ⟨z, _, rfl, by omega, hz.sg, S, fun H S => ?_⟩
      walk_at "xs"
      refine w_isi (.bl _) (r := true) rfl ?_
      walk_at "xs"
      refine ⟨z, _, rfl, by omega, hz.sg, S, fun H S => ?_⟩
      walk_at "xs"
      refine w_noN rfl ?_
      walk_at "xs"
      refine ⟨_, _, rfl, by decide +kernel, by decide +kernel, S, fun H S => ?_⟩
      walk_at "xs"
      refine w_noN (by decide +kernel) ?_
      walk_at "xs"
      exact ⟨_, _, _, _, _, _, _, _, _, rfl, S.to (by walk_at "s")⟩
  · rintro σ H ⟨v2, v3, v4, v5, v6, v7, v8, v9, v10, rfl, S⟩
    walk_at "xs"
    exact k H
end
theorem all_mk {l : PySem.W.OpenLaw} {w : World} {K : PySem.W.Frag} {h : Heap} {mg : Str → Option Value} {fa a_HouseError a_NoText a_NotFormed a_NoThing a_NoName a_Fixed a_Ring a_Shut f0 f1 f2 f3 f4 f5 f6 f7 f8 f9 f10 : Addr} (X : K.In h) (G : h.Ns mainGlobals mg) (hfa : mg "law" = some (.ref fa))
    {od0 od1 od2 od3 od4 od5 od6 od7 od8 od9 od10 an0 an1 an2 an3 an4 an5 an6 an7 an8 an9 an10 : Option Addr} {sl0 sl1 sl2 sl3 sl4 sl5 sl6 sl7 sl8 sl9 sl10 : Array (Option Value)} {oc0 oc1 oc2 oc3 oc4 oc5 oc6 oc7 oc8 oc9 oc10 kV0 kV1 kV2 kV3 kV4 kV5 kV6 kV7 kV8 kV9 kV10 dc0 dc1 dc2 dc3 dc4 dc5 dc6 dc7 dc8 dc9 dc10 pm0 pm1 pm2 pm3 pm4 pm5 pm6 pm7 pm8 pm9 pm10 cd0 cd1 cd2 cd3 cd4 cd5 cd6 cd7 cd8 cd9 cd10 ct0 ct1 ct2 ct3 ct4 ct5 ct6 ct7 ct8 ct9 ct10 u_MOST_SIGNS u_LETTERS u_FIGURES : Value}
    (zc_HouseError : PySem.W.nsIn K mainGlobals "HouseError" = some (some (.ref a_HouseError)))
    (zc_NoText : PySem.W.nsIn K mainGlobals "NoText" = some (some (.ref a_NoText)))
    (zc_NotFormed : PySem.W.nsIn K mainGlobals "NotFormed" = some (some (.ref a_NotFormed)))
    (zc_NoThing : PySem.W.nsIn K mainGlobals "NoThing" = some (some (.ref a_NoThing)))
    (zc_NoName : PySem.W.nsIn K mainGlobals "NoName" = some (some (.ref a_NoName)))
    (zc_Fixed : PySem.W.nsIn K mainGlobals "Fixed" = some (some (.ref a_Fixed)))
    (zc_Ring : PySem.W.nsIn K mainGlobals "Ring" = some (some (.ref a_Ring)))
    (zc_Shut : PySem.W.nsIn K mainGlobals "Shut" = some (some (.ref a_Shut)))
    (a0 : PySem.W.nsIn K mainGlobals "law" = some (some (.ref f0)))
    (a1 : PySem.W.nsIn K mainGlobals "_law_bag" = some (some (.ref f1)))
    (a2 : PySem.W.nsIn K mainGlobals "_law_draw" = some (some (.ref f2)))
    (a3 : PySem.W.nsIn K mainGlobals "_law_name_due" = some (some (.ref f3)))
    (a4 : PySem.W.nsIn K mainGlobals "_law_read" = some (some (.ref f4)))
    (a5 : PySem.W.nsIn K mainGlobals "_law_text" = some (some (.ref f5)))
    (a6 : PySem.W.nsIn K mainGlobals "_law_value" = some (some (.ref f6)))
    (a7 : PySem.W.nsIn K mainGlobals "_law_word" = some (some (.ref f7)))
    (a8 : PySem.W.nsIn K mainGlobals "is_name" = some (some (.ref f8)))
    (a9 : PySem.W.nsIn K mainGlobals "read_whole" = some (some (.ref f9)))
    (a10 : PySem.W.nsIn K mainGlobals "_law_any_sign" = some (some (.ref f10)))
    (zk_MOST_SIGNS : PySem.W.nsIn K mainGlobals "MOST_SIGNS" = some (some u_MOST_SIGNS))
    (zk_LETTERS : PySem.W.nsIn K mainGlobals "LETTERS" = some (some u_LETTERS))
    (zk_FIGURES : PySem.W.nsIn K mainGlobals "FIGURES" = some (some u_FIGURES))
    (l0 : K.lookup f0 = some ⟨oc0, od0, .func (PySem.W.fnOf "law" "law" (defArgs s_law) (defBody s_law) (defScope s_law) .none kV0 dc0 pm0 an0 cd0 ct0), sl0⟩)
    (l1 : K.lookup f1 = some ⟨oc1, od1, .func (PySem.W.fnOf "_law_bag" "_law_bag" (defArgs s__law_bag) (defBody s__law_bag) (defScope s__law_bag) .none kV1 dc1 pm1 an1 cd1 ct1), sl1⟩)
    (l2 : K.lookup f2 = some ⟨oc2, od2, .func (PySem.W.fnOf "_law_draw" "_law_draw" (defArgs s__law_draw) (defBody s__law_draw) (defScope s__law_draw) .none kV2 dc2 pm2 an2 cd2 ct2), sl2⟩)
    (l3 : K.lookup f3 = some ⟨oc3, od3, .func (PySem.W.fnOf "_law_name_due" "_law_name_due" (defArgs s__law_name_due) (defBody s__law_name_due) (defScope s__law_name_due) .none kV3 dc3 pm3 an3 cd3 ct3), sl3⟩)
    (l4 : K.lookup f4 = some ⟨oc4, od4, .func (PySem.W.fnOf "_law_read" "_law_read" (defArgs s__law_read) (defBody s__law_read) (defScope s__law_read) .none kV4 dc4 pm4 an4 cd4 ct4), sl4⟩)
    (l5 : K.lookup f5 = some ⟨oc5, od5, .func (PySem.W.fnOf "_law_text" "_law_text" (defArgs s__law_text) (defBody s__law_text) (defScope s__law_text) .none kV5 dc5 pm5 an5 cd5 ct5), sl5⟩)
    (l6 : K.lookup f6 = some ⟨oc6, od6, .func (PySem.W.fnOf "_law_value" "_law_value" (defArgs s__law_value) (defBody s__law_value) (defScope s__law_value) .none kV6 dc6 pm6 an6 cd6 ct6), sl6⟩)
    (l7 : K.lookup f7 = some ⟨oc7, od7, .func (PySem.W.fnOf "_law_word" "_law_word" (defArgs s__law_word) (defBody s__law_word) (defScope s__law_word) .none kV7 dc7 pm7 an7 cd7 ct7), sl7⟩)
    (l8 : K.lookup f8 = some ⟨oc8, od8, .func (PySem.W.fnOf "is_name" "is_name" (defArgs s_is_name) (defBody s_is_name) (defScope s_is_name) .none kV8 dc8 pm8 an8 cd8 ct8), sl8⟩)
    (l9 : K.lookup f9 = some ⟨oc9, od9, .func (PySem.W.fnOf "read_whole" "read_whole" (defArgs s_read_whole) (defBody s_read_whole) (defScope s_read_whole) .none kV9 dc9 pm9 an9 cd9 ct9), sl9⟩)
    (l10 : K.lookup f10 = some ⟨oc10, od10, .func (PySem.W.fnOf "_law_any_sign" "_law_any_sign" (defArgs s__law_any_sign) (defBody s__law_any_sign) (defScope s__law_any_sign) .none kV10 dc10 pm10 an10 cd10 ct10), sl10⟩)
    (zn_range : PySem.W.nsIn K mainGlobals "range" = some none)
    (zn_min : PySem.W.nsIn K mainGlobals "min" = some none)
    (zn_max : PySem.W.nsIn K mainGlobals "max" = some none)
    (zn_isinstance : PySem.W.nsIn K mainGlobals "isinstance" = some none)
    (zn_bool : PySem.W.nsIn K mainGlobals "bool" = some none)
    (zn_int : PySem.W.nsIn K mainGlobals "int" = some none)
    (zn_abs : PySem.W.nsIn K mainGlobals "abs" = some none)
    (zn_len : PySem.W.nsIn K mainGlobals "len" = some none)
    (zn_ValueError : PySem.W.nsIn K mainGlobals "ValueError" = some none)
    (zr_MOST_SIGNS : RelV (.int 8) u_MOST_SIGNS)
    (zr_LETTERS : RelV (.str "abcdefghijklmnopqrstuvwxyz") u_LETTERS)
    (zr_FIGURES : RelV (.str "0123456789") u_FIGURES)
    (zx_HouseError : PySem.W.excIn K a_HouseError veB "ValueError.__new__" = true)
    (zkp_HouseError : PySem.W.keepIn K (.ref a_HouseError) = true)
    (zb_HouseError : PySem.W.subIn K (.ref a_HouseError) (.type "BaseException") = some true)
    (zt_HouseError : PySem.W.typeIn K (.ref a_HouseError) = some (.type "type"))
    (zx_NoText : PySem.W.excIn K a_NoText veB "ValueError.__new__" = true)
    (zkp_NoText : PySem.W.keepIn K (.ref a_NoText) = true)
    (zb_NoText : PySem.W.subIn K (.ref a_NoText) (.type "BaseException") = some true)
    (zt_NoText : PySem.W.typeIn K (.ref a_NoText) = some (.type "type"))
    (zhg_NoText : PySem.W.findIn K (.ref a_NoText) "__getattribute__" = some (some (.builtin "BaseException.__getattribute__")))
    (zhk_NoText : PySem.W.findIn K (.ref a_NoText) "__getattr__" = some none)
    (zhd_NoText : PySem.W.hasDictIn K a_NoText = true)
    (zha_NoText : PySem.W.findIn K (.ref a_NoText) "__class__" = some (some (.builtin "object.__class__")))
    (zhm_NoText : PySem.W.mroIn K a_NoText (.type "object") = some true)
    (zi_NoText_NoText : PySem.W.kitOne K (.ref a_NoText) (.ref a_NoText) = some true)
    (zi_NoText_NotFormed : PySem.W.kitOne K (.ref a_NoText) (.ref a_NotFormed) = some false)
    (zi_NoText_NoThing : PySem.W.kitOne K (.ref a_NoText) (.ref a_NoThing) = some false)
    (zi_NoText_NoName : PySem.W.kitOne K (.ref a_NoText) (.ref a_NoName) = some false)
    (zi_NoText_Fixed : PySem.W.kitOne K (.ref a_NoText) (.ref a_Fixed) = some false)
    (zi_NoText_Ring : PySem.W.kitOne K (.ref a_NoText) (.ref a_Ring) = some false)
    (zi_NoText_Shut : PySem.W.kitOne K (.ref a_NoText) (.ref a_Shut) = some false)
    (zi_NoText_ValueError : PySem.W.kitOne K (.ref a_NoText) (.type "ValueError") = some true)
    (zh_NoText_HouseError : PySem.W.exmOne K (.ref a_NoText) (.ref a_HouseError) = some true)
    (zon : PySem.W.specialIn K (.builtin "object.__class__") "__get__" = some (some (.builtin "getset_descriptor.__get__")))
    (zot : PySem.W.takesIn K (.builtin "object.__class__") = some true)
    (c0 : PySem.W.codeIn K cd0 "law" = true)
    (k0 : PySem.W.keepIn K (.ref f0) = true)
    (c1 : PySem.W.codeIn K cd1 "_law_bag" = true)
    (k1 : PySem.W.keepIn K (.ref f1) = true)
    (c2 : PySem.W.codeIn K cd2 "_law_draw" = true)
    (k2 : PySem.W.keepIn K (.ref f2) = true)
    (c3 : PySem.W.codeIn K cd3 "_law_name_due" = true)
    (k3 : PySem.W.keepIn K (.ref f3) = true)
    (c4 : PySem.W.codeIn K cd4 "_law_read" = true)
    (k4 : PySem.W.keepIn K (.ref f4) = true)
    (c5 : PySem.W.codeIn K cd5 "_law_text" = true)
    (k5 : PySem.W.keepIn K (.ref f5) = true)
    (c6 : PySem.W.codeIn K cd6 "_law_value" = true)
    (k6 : PySem.W.keepIn K (.ref f6) = true)
    (c7 : PySem.W.codeIn K cd7 "_law_word" = true)
    (k7 : PySem.W.keepIn K (.ref f7) = true)
    (c8 : PySem.W.codeIn K cd8 "is_name" = true)
    (k8 : PySem.W.keepIn K (.ref f8) = true)
    (c9 : PySem.W.codeIn K cd9 "read_whole" = true)
    (k9 : PySem.W.keepIn K (.ref f9) = true)
    (c10 : PySem.W.codeIn K cd10 "_law_any_sign" = true)
    (k10 : PySem.W.keepIn K (.ref f10) = true) :
    ∃ fd : FuncData, (∀ (s : Shared) (v : Value), BindsTo s fd ⟨[v], []⟩ [("script", v)]) ∧ ∀ base : Heap, K.In base → base.Ns mainGlobals mg → FnOk l.prog w K mg base CX0 4 fa fd ["script"] (spLaw K) := by
  have e := hfa.symm.trans (PySem.W.mg_of X G a0)
  cases e
  have T : Txt K mg a_HouseError a_NoText a_NotFormed a_NoThing a_NoName a_Fixed a_Ring a_Shut := {
    n_range := PySem.W.mg_none_of X G zn_range,
    n_min := PySem.W.mg_none_of X G zn_min,
    n_max := PySem.W.mg_none_of X G zn_max,
    n_isinstance := PySem.W.mg_none_of X G zn_isinstance,
    n_bool := PySem.W.mg_none_of X G zn_bool,
    n_int := PySem.W.mg_none_of X G zn_int,
    n_abs := PySem.W.mg_none_of X G zn_abs,
    n_len := PySem.W.mg_none_of X G zn_len,
    n_ValueError := PySem.W.mg_none_of X G zn_ValueError,
    k_MOST_SIGNS := ⟨_, PySem.W.mg_of X G zk_MOST_SIGNS, zr_MOST_SIGNS⟩,
    k_LETTERS := ⟨_, PySem.W.mg_of X G zk_LETTERS, zr_LETTERS⟩,
    k_FIGURES := ⟨_, PySem.W.mg_of X G zk_FIGURES, zr_FIGURES⟩,
    c_HouseError := PySem.W.mg_of X G zc_HouseError,
    c_NoText := PySem.W.mg_of X G zc_NoText,
    c_NotFormed := PySem.W.mg_of X G zc_NotFormed,
    c_NoThing := PySem.W.mg_of X G zc_NoThing,
    c_NoName := PySem.W.mg_of X G zc_NoName,
    c_Fixed := PySem.W.mg_of X G zc_Fixed,
    c_Ring := PySem.W.mg_of X G zc_Ring,
    c_Shut := PySem.W.mg_of X G zc_Shut,
    x_HouseError := ⟨zx_HouseError, PySem.W.mg_of X G zc_HouseError, zkp_HouseError, zb_HouseError, zt_HouseError⟩,
    x_NoText := ⟨zx_NoText, PySem.W.mg_of X G zc_NoText, zkp_NoText, zb_NoText, zt_NoText⟩,
    e_NoText := ⟨zhg_NoText, zhk_NoText, zb_NoText, zhd_NoText, zha_NoText, zon, zot, zhm_NoText⟩,
    i_NoText_NoText := zi_NoText_NoText,
    i_NoText_NotFormed := zi_NoText_NotFormed,
    i_NoText_NoThing := zi_NoText_NoThing,
    i_NoText_NoName := zi_NoText_NoName,
    i_NoText_Fixed := zi_NoText_Fixed,
    i_NoText_Ring := zi_NoText_Ring,
    i_NoText_Shut := zi_NoText_Shut,
    i_NoText_ValueError := zi_NoText_ValueError,
    h_NoText_HouseError := zh_NoText_HouseError,
    f__law_bag := ⟨_, _, fun_mk (st := s__law_bag) l1 c1 k1, PySem.W.mg_of X G a1, (fun_mk (st := s__law_bag) l1 c1 k1).binds (ps := ["script"]) fun _ _ _ _ _ _ us hl => match us, hl with | [_], _ => rfl⟩,
    f__law_draw := ⟨_, _, fun_mk (st := s__law_draw) l2 c2 k2, PySem.W.mg_of X G a2, (fun_mk (st := s__law_draw) l2 c2 k2).binds (ps := ["bag", "many"]) fun _ _ _ _ _ _ us hl => match us, hl with | [_, _], _ => rfl⟩,
    f__law_name_due := ⟨_, _, fun_mk (st := s__law_name_due) l3 c3 k3, PySem.W.mg_of X G a3, (fun_mk (st := s__law_name_due) l3 c3 k3).binds (ps := ["text"]) fun _ _ _ _ _ _ us hl => match us, hl with | [_], _ => rfl⟩,
    f__law_read := ⟨_, _, fun_mk (st := s__law_read) l4 c4 k4, PySem.W.mg_of X G a4, (fun_mk (st := s__law_read) l4 c4 k4).binds (ps := ["text", "most"]) fun _ _ _ _ _ _ us hl => match us, hl with | [_, _], _ => rfl⟩,
    f__law_text := ⟨_, _, fun_mk (st := s__law_text) l5 c5 k5, PySem.W.mg_of X G a5, (fun_mk (st := s__law_text) l5 c5 k5).binds (ps := ["bag", "most"]) fun _ _ _ _ _ _ us hl => match us, hl with | [_, _], _ => rfl⟩,
    f__law_value := ⟨_, _, fun_mk (st := s__law_value) l6 c6 k6, PySem.W.mg_of X G a6, (fun_mk (st := s__law_value) l6 c6 k6).binds (ps := ["text", "most"]) fun _ _ _ _ _ _ us hl => match us, hl with | [_, _], _ => rfl⟩,
    f__law_word := ⟨_, _, fun_mk (st := s__law_word) l7 c7 k7, PySem.W.mg_of X G a7, (fun_mk (st := s__law_word) l7 c7 k7).binds (ps := ["bag"]) fun _ _ _ _ _ _ us hl => match us, hl with | [_], _ => rfl⟩,
    f_is_name := ⟨_, _, fun_mk (st := s_is_name) l8 c8 k8, PySem.W.mg_of X G a8, (fun_mk (st := s_is_name) l8 c8 k8).binds (ps := ["text"]) fun _ _ _ _ _ _ us hl => match us, hl with | [_], _ => rfl⟩,
    f_read_whole := ⟨_, _, fun_mk (st := s_read_whole) l9 c9 k9, PySem.W.mg_of X G a9, (fun_mk (st := s_read_whole) l9 c9 k9).binds (ps := ["text", "most"]) fun _ _ _ _ _ _ us hl => match us, hl with | [_, _], _ => rfl⟩,
    f__law_any_sign := ⟨_, _, fun_mk (st := s__law_any_sign) l10 c10 k10, PySem.W.mg_of X G a10, (fun_mk (st := s__law_any_sign) l10 c10 k10).binds (ps := ["bag"]) fun _ _ _ _ _ _ us hl => match us, hl with | [_], _ => rfl⟩
  }
  exact ⟨PySem.W.fnOf "law" "law" (defArgs s_law) (defBody s_law) (defScope s_law) .none kV0 dc0 pm0 an0 cd0 ct0, fun s v => .of_eq rfl, fun base _ _ => ok_law (fun_mk (st := s_law) l0 c0 k0) T⟩
theorem walk {l : PySem.W.OpenLaw} {q : Program} {loose : List Str} {XP : (Str → Option Value) → Heap → Prop} {YP : World → Heap → Prop} {d : DefRec} {K : Params → PySem.W.Frag} (hn : l.most = some 63) (hdf : d.params.defaults = [])
    (hY : ∀ (w : World) (h : Heap), YP w h → (K w.params).In h)
    (F : ∀ (w : World) (mg : Str → Option Value) (fa : Addr) (h : Heap), (K w.params).In h → h.Ns mainGlobals mg → mg d.name = some (.ref fa) →
      ∃ fd : FuncData, (∀ (s : Shared) (u : Value), BindsTo s fd ⟨[u], []⟩ [("script", u)]) ∧ ∀ base : Heap, (K w.params).In base → base.Ns mainGlobals mg → FnOk l.prog w (K w.params) mg base CX0 4 fa fd ["script"] (spLaw (K w.params))) :
    PySem.W.WalkO q loose XP YP l.row.toRowW d [] (fun f vs => PySem.call f vs) :=
  L2.walk_of (n := 63) (k := 4) (x := "script") (CX := fun _ => CX0) (sp := fun w => spLaw (K w.params)) hn (by decide) hdf ⟨rfl, by decide, by decide⟩ hY F (fun _ _ a ns hl _ hS => ⟨a, ns, [], rfl, hl, scr_new hS, fun _ => rfl⟩) fun _ _ _ _ _ z => z
end Law

open PySem PySem.W PyProof.Rows in
set_option maxRecDepth 100000 in
set_option maxHeartbeats 0 in
theorem PySem.Challenge.cw_learnplace_k74_numbers_and_names_read_holds : PySem.Challenge.rw_learnplace_k74_numbers_and_names_read.Holds := by
  w_on; o_law; k_head; (case hw => w_witness2)
  k_fill
  refine Law.walk (l := PySem.Challenge.rw_learnplace_k74_numbers_and_names_read) rfl rfl (fun w h Y => PySem.W.kIn_of Y) ?F
  case F =>
    intro w mg fa h KX G hmg
    refine' Law.all_mk KX G hmg ?zc_HouseError ?zc_NoText ?zc_NotFormed ?zc_NoThing ?zc_NoName ?zc_Fixed ?zc_Ring ?zc_Shut ?a0 ?a1 ?a2 ?a3 ?a4 ?a5 ?a6 ?a7 ?a8 ?a9 ?a10 ?zk_MOST_SIGNS ?zk_LETTERS ?zk_FIGURES ?l0 ?l1 ?l2 ?l3 ?l4 ?l5 ?l6 ?l7 ?l8 ?l9 ?l10 ?zn_range ?zn_min ?zn_max ?zn_isinstance ?zn_bool ?zn_int ?zn_abs ?zn_len ?zn_ValueError ?zr_MOST_SIGNS ?zr_LETTERS ?zr_FIGURES ?zx_HouseError ?zkp_HouseError ?zb_HouseError ?zt_HouseError ?zx_NoText ?zkp_NoText ?zb_NoText ?zt_NoText ?zhg_NoText ?zhk_NoText ?zhd_NoText ?zha_NoText ?zhm_NoText ?zi_NoText_NoText ?zi_NoText_NotFormed ?zi_NoText_NoThing ?zi_NoText_NoName ?zi_NoText_Fixed ?zi_NoText_Ring ?zi_NoText_Shut ?zi_NoText_ValueError ?zh_NoText_HouseError ?zon ?zot ?c0 ?k0 ?c1 ?k1 ?c2 ?k2 ?c3 ?k3 ?c4 ?k4 ?c5 ?k5 ?c6 ?k6 ?c7 ?k7 ?c8 ?k8 ?c9 ?k9 ?c10 ?k10
    (case zc_HouseError => k_is)
    (case zc_NoText => k_is)
    (case zc_NotFormed => k_is)
    (case zc_NoThing => k_is)
    (case zc_NoName => k_is)
    (case zc_Fixed => k_is)
    (case zc_Ring => k_is)
    (case zc_Shut => k_is)
    (case a0 => k_is)
    (case a1 => k_is)
    (case a2 => k_is)
    (case a3 => k_is)
    (case a4 => k_is)
    (case a5 => k_is)
    (case a6 => k_is)
    (case a7 => k_is)
    (case a8 => k_is)
    (case a9 => k_is)
    (case a10 => k_is)
    (case zk_MOST_SIGNS => k_is)
    (case zk_LETTERS => k_is)
    (case zk_FIGURES => k_is)
    (case l0 => k_is)
    (case l1 => k_is)
    (case l2 => k_is)
    (case l3 => k_is)
    (case l4 => k_is)
    (case l5 => k_is)
    (case l6 => k_is)
    (case l7 => k_is)
    (case l8 => k_is)
    (case l9 => k_is)
    (case l10 => k_is)
    (case zn_range => k_is)
    (case zn_min => k_is)
    (case zn_max => k_is)
    (case zn_isinstance => k_is)
    (case zn_bool => k_is)
    (case zn_int => k_is)
    (case zn_abs => k_is)
    (case zn_len => k_is)
    (case zn_ValueError => k_is)
    (case zr_MOST_SIGNS => first | exact rfl | exact ⟨_, rfl⟩)
    (case zr_LETTERS => first | exact rfl | exact ⟨_, rfl⟩)
    (case zr_FIGURES => first | exact rfl | exact ⟨_, rfl⟩)
    (case zx_HouseError => k_exc)
    (case zkp_HouseError => k_is)
    (case zb_HouseError => k_is)
    (case zt_HouseError => k_is)
    (case zx_NoText => k_exc)
    (case zkp_NoText => k_is)
    (case zb_NoText => k_is)
    (case zt_NoText => k_is)
    (case zhg_NoText => k_is)
    (case zhk_NoText => k_is)
    (case zhd_NoText => k_is)
    (case zha_NoText => k_is)
    (case zhm_NoText => k_is)
    (case zi_NoText_NoText => exact kit_self)
    (case zi_NoText_NotFormed => (refine kit_own ?_ ?_ ?_ (by decide) <;> k_is))
    (case zi_NoText_NoThing => (refine kit_own ?_ ?_ ?_ (by decide) <;> k_is))
    (case zi_NoText_NoName => (refine kit_own ?_ ?_ ?_ (by decide) <;> k_is))
    (case zi_NoText_Fixed => (refine kit_own ?_ ?_ ?_ (by decide) <;> k_is))
    (case zi_NoText_Ring => (refine kit_own ?_ ?_ ?_ (by decide) <;> k_is))
    (case zi_NoText_Shut => (refine kit_own ?_ ?_ ?_ (by decide) <;> k_is))
    (case zi_NoText_ValueError => (refine kit_ty (by decide +kernel) ?_ <;> k_is))
    (case zh_NoText_HouseError => (refine exm_own ?_ ?_ ?_ ?_ <;> k_is))
    (case zon => k_is)
    (case zot => k_is)
    (case c0 => k_is)
    (case k0 => k_is)
    (case c1 => k_is)
    (case k1 => k_is)
    (case c2 => k_is)
    (case k2 => k_is)
    (case c3 => k_is)
    (case k3 => k_is)
    (case c4 => k_is)
    (case k4 => k_is)
    (case c5 => k_is)
    (case k5 => k_is)
    (case c6 => k_is)
    (case k6 => k_is)
    (case c7 => k_is)
    (case k7 => k_is)
    (case c8 => k_is)
    (case k8 => k_is)
    (case c9 => k_is)
    (case k9 => k_is)
    (case c10 => k_is)
    (case k10 => k_is)
#print axioms PySem.Challenge.cw_learnplace_k74_numbers_and_names_read_holds
