import PyProof.Rows.All
import Wide.All
import OpenK.AllK
import Wide.FinOn
import KE.KStateDown
import KE.GoesEnum
import HandS.ForMost
import HandS.ForExc
import HandS.Codes
import HandS.Defaults
import HandS.Strs
import HandS.SetFor
import HandS.TupAny
import HandS.TupMul
import HandS.Wide
import HandS.IsInst
import HandS.Flow
import HandS.Conv
import HandS.Head0
import HandS.Head1
import HandS.Head2
import HandS.HeadEnd
import HandS.HeadHook1
import HandS.HeadHook2
import PySem.Challenge.RW_purseahead_k35_whole_one_paced_at_all_li
set_option Elab.async false
set_option linter.all false
set_option maxRecDepth 100000
set_option maxHeartbeats 0
/-! P0: worlds (what a piece of code may change: the hand, its own lists), the known heap F, what readings come to. -/
namespace PA
open PySem L2

/-- what may turn: nothing; the hand (its list at a, the cells' list at c); besides, an own object q that is o now -/
inductive Wd where
  | nil
  | hand (a c : Addr)
  | own (p : Wd) (q : Addr) (o : HO)
def hid : Wd → Addr → Prop
  | .nil, _ => False
  | .hand a _, b => b = a
  | .own p q _, b => b = q ∨ hid p b
/-- the heap without what may turn -/
def vis : Wd → Hp → Hp
  | .nil, H => H
  | .hand a _, H => fun b => if b = a then none else H b
  | .own p q _, H => fun b => if b = q then none else vis p H b
def grd : Wd → Hp → Prop
  | .nil, _ => True
  | .hand a c, H => ∃ i r t : Int, H a = some (.lst [.ref c, .int i, .int r, .int t]) ∧ 0 ≤ i ∧ 0 ≤ r ∧ 0 ≤ t
  | .own p q o, H => H q = some o ∧ ¬ hid p q ∧ grd p H
/-- F is known of what stands still -/
def At (p : Wd) (F H : Hp) : Prop := Same F (vis p H) ∧ grd p H
theorem same_t {K : PySem.W.Frag} {H H' : Hp} {a : Addr} {xs : List V} (e : Same H H') (h : SqT K H a xs) : SqT K H' a xs := by
  rcases h with (h | ⟨o, h⟩) | h
  · exact .inl (.inl (e _ _ h))
  · exact .inl (.inr ⟨o, e _ _ h⟩)
  · exact .inr h
section
variable {K : PySem.W.Frag} {p : Wd} {F F' F1 F2 H H' : Hp} {q a : Addr} {o u : HO} {xs : List V}
theorem vis_not : ∀ {p : Wd} {H : Hp} {b : Addr}, ¬ hid p b → vis p H b = H b
  | .nil, _, _, _ => rfl
  | .hand a c, H, b, n => by
    have n' : ¬ b = a := n
    show (if b = a then none else H b) = H b
    rw [if_neg n']
  | .own p q o, H, b, n => by
    show (if b = q then none else vis p H b) = H b
    rw [if_neg fun e => n (.inl e)]
    exact vis_not fun e => n (.inr e)
theorem vis_hid : ∀ {p : Wd} {H : Hp} {b : Addr}, hid p b → vis p H b = none
  | .nil, _, _, h => h.elim
  | .hand a c, H, b, h => by
    have h' : b = a := h
    show (if b = a then none else H b) = none
    rw [if_pos h']
  | .own p q o, H, b, h => by
    show (if b = q then none else vis p H b) = none
    by_cases e : b = q
    · rw [if_pos e]
    · rw [if_neg e]
      exact vis_hid (h.resolve_left e)
theorem hid_em (p : Wd) (b : Addr) : hid p b ∨ ¬ hid p b := Classical.em _
theorem vis_some {b : Addr} (h : vis p H b = some o) : ¬ hid p b ∧ H b = some o := by
  rcases hid_em p b with e | e
  · rw [vis_hid e] at h; cases h
  · exact ⟨e, by rw [vis_not e] at h; exact h⟩
theorem vis_sub : Same (vis p H) H := fun _ _ e => (vis_some e).2
theorem vis_none (n : H q = none) : vis p H q = none := by
  cases e : vis p H q with
  | none => rfl
  | some o => rw [vis_sub q o e] at n; cases n
theorem grd_hid : ∀ {p : Wd} {H : Hp}, grd p H → ∀ b, hid p b → ∃ o, H b = some o
  | .nil, _, _, _, h => h.elim
  | .hand a c, _, ⟨_, _, _, e, _⟩, b, h => by
    have h' : b = a := h
    subst h'
    exact ⟨_, e⟩
  | .own p q o, _, ⟨e, _, g⟩, b, h => by
    rcases h with h | h
    · exact ⟨o, by rw [h]; exact e⟩
    · exact grd_hid g b h
theorem not_hid (g : grd p H) (n : H q = none) : ¬ hid p q := fun h => by
  obtain ⟨o, e⟩ := grd_hid g q h
  rw [e] at n; cases n
/-- the hidden things stand as they stood -/
theorem grd_to : ∀ {p : Wd} {H H' : Hp}, (∀ b o, hid p b → H b = some o → H' b = some o) → grd p H → grd p H'
  | .nil, _, _, _, _ => True.intro
  | .hand a c, _, _, k, ⟨i, r, t, e, z⟩ => ⟨i, r, t, k a _ rfl e, z⟩
  | .own p q o, _, _, k, ⟨e, n, g⟩ => ⟨k q o (.inl rfl) e, n, grd_to (fun b u hb => k b u (.inr hb)) g⟩
theorem At.refl (g : grd p H) : At p (vis p H) H := ⟨Same.refl _, g⟩
theorem At.less (e : Same F F') (h : At p F' H) : At p F H := ⟨e.trans h.1, h.2⟩
theorem At.get (h : At p F H) {b : Addr} (e : F b = some o) : H b = some o := vis_sub _ _ (h.1 _ _ e)
theorem At.not_hid (h : At p F H) {b : Addr} (e : F b = some o) : ¬ hid p b := (vis_some (h.1 _ _ e)).1
theorem At.sub (h : At p F H) : Same F H := fun _ _ e => h.get e
theorem At.l (h : At p F H) (x : SqL K F a xs) : SqL K H a xs := h.sub.seq x
theorem At.t (h : At p F H) (x : SqT K F a xs) : SqT K H a xs := same_t h.sub x
theorem At.free (h : At p F H) (n : H q = none) : F q = none := h.sub.free n
theorem same_new (n : H q = none) : Same H (upd H q o) := fun b x e => by
  rw [upd_ne (ne_of_none e n)]
  exact e
/-- a thing new and still -/
theorem At.new (h : At p F H) (n : H q = none) : At p (upd F q o) (upd H q o) := by
  refine ⟨fun b x e => ?_, grd_to (fun b x _ e => same_new n b x e) h.2⟩
  by_cases hb : b = q
  · subst hb
    rw [upd_same] at e
    rw [vis_not (PA.not_hid h.2 n), upd_same]
    exact e
  · rw [upd_ne hb] at e
    have e2 := vis_some (h.1 b x e)
    rw [vis_not e2.1, upd_ne hb]
    exact e2.2
/-- new and not told -/
theorem At.new0 (h : At p F H) (n : H q = none) : At p F (upd H q o) := (h.new n).less (same_new (h.free n))
/-- a thing new and one's own -/
theorem At.mine (h : At p F H) (n : H q = none) : At (.own p q o) F (upd H q o) := by
  refine ⟨fun b x e => ?_, upd_same, PA.not_hid h.2 n, grd_to (fun b x _ e => same_new n b x e) h.2⟩
  have nb : b ≠ q := fun z => by subst z; rw [h.free n] at e; cases e
  have e2 := vis_some (h.1 b x e)
  show (if b = q then none else vis p (upd H q o) b) = some x
  rw [if_neg nb, vis_not e2.1, upd_ne nb]
  exact e2.2
/-- a still thing taken as one's own -/
theorem At.take (h : At p F' H) (e : F' q = some o) (n : F q = none) (s : Same F F') : At (.own p q o) F H := by
  refine ⟨fun b x hb => ?_, h.get e, h.not_hid e, h.2⟩
  have nb : b ≠ q := ne_of_none hb n
  show (if b = q then none else vis p H b) = some x
  rw [if_neg nb]
  exact h.1 b x (s _ _ hb)
/-- one's own thing is changed -/
theorem At.put (h : At (.own p q o) F H) : At (.own p q u) F (upd H q u) := by
  obtain ⟨s, e, n, g⟩ := h
  refine ⟨fun b x hb => ?_, upd_same, n, grd_to (fun b x hb hx => ?_) g⟩
  · have e2 := vis_some (s b x hb)
    have n2 : ¬ (b = q ∨ hid p b) := e2.1
    have nb : b ≠ q := fun z => n2 (.inl z)
    rw [vis_not (p := .own p q u) n2, upd_ne nb]
    exact e2.2
  · have nb : b ≠ q := fun z => n (z ▸ hb)
    rw [upd_ne nb]
    exact hx
theorem At.mine_at (h : At (.own p q o) F H) : H q = some o := h.2.1
/-- one's own thing stands still from now on -/
theorem At.give (h : At (.own p q o) F H) : At p (upd F q o) H := by
  obtain ⟨s, e, n, g⟩ := h
  refine ⟨fun b x hb => ?_, g⟩
  by_cases z : b = q
  · subst z
    rw [upd_same] at hb
    rw [vis_not n, e]
    exact hb
  · rw [upd_ne z] at hb
    have e2 := s b x hb
    have e3 : (if b = q then none else vis p H b) = some x := e2
    rw [if_neg z] at e3
    exact e3
theorem At.own_free (h : At (.own p q o) F H) : F q = none := by
  cases e : F q with
  | none => rfl
  | some x => exact absurd (show q = q ∨ hid p q from .inl rfl) (h.not_hid e)
theorem At.give_same (h : At (.own p q o) F H) : Same F (upd F q o) := same_new h.own_free
theorem At.swap {q' : Addr} {o' : HO} (h : At (.own (.own p q o) q' o') F H) : At (.own (.own p q' o') q o) F H := by
  obtain ⟨s, e, n, e2, n2, g⟩ := h
  have nq : ¬ (q' = q ∨ hid p q') := n
  refine ⟨fun b x hb => ?_, e2, fun z => ?_, e, fun z => nq (.inr z), g⟩
  · have e3 := vis_some (s b x hb)
    have n3 : ¬ (b = q' ∨ b = q ∨ hid p b) := e3.1
    have n4 : ¬ hid (.own (.own p q' o') q o) b := fun z => by
      rcases (show b = q ∨ b = q' ∨ hid p b from z) with z | z | z
      · exact n3 (.inr (.inl z))
      · exact n3 (.inl z)
      · exact n3 (.inr (.inr z))
    rw [vis_not n4]
    exact e3.2
  · rcases (show q = q' ∨ hid p q from z) with z | z
    · exact nq (.inl z.symm)
    · exact n2 z
theorem at_nil (H : Hp) : At .nil H H := ⟨Same.refl _, True.intro⟩

/-! ### a list or a tuple that is seen -/
/-- own of p: the list xs at a -/
def Has : Wd → Addr → HO → Prop
  | .own p q o, a, u => (a = q ∧ u = o) ∨ Has p a u
  | _, _, _ => False
theorem has_at : ∀ {p : Wd} {H : Hp}, grd p H → ∀ {a u}, Has p a u → H a = some u
  | .own p q o, _, ⟨e, _, g⟩, a, u, h => by
    rcases h with ⟨rfl, rfl⟩ | h
    · exact e
    · exact has_at g h
def Sq (K : PySem.W.Frag) (p : Wd) (F : Hp) (a : Addr) (xs : List V) : Prop := SqL K F a xs ∨ SqT K F a xs ∨ Has p a (.lst xs)
theorem Sq.mono (s : Same F F') (h : Sq K p F a xs) : Sq K p F' a xs := by
  rcases h with h | h | h
  · exact .inl (s.seq h)
  · exact .inr (.inl (same_t s h))
  · exact .inr (.inr h)
theorem At.s (h : At p F H) (x : Sq K p F a xs) : SqL K H a xs ∨ SqT K H a xs := by
  rcases x with x | x | x
  · exact .inl (h.l x)
  · exact .inr (h.t x)
  · exact .inl (.of (has_at h.2 x))
theorem Sq.l (h : SqL K F a xs) : Sq K p F a xs := .inl h
theorem Sq.t (h : SqT K F a xs) : Sq K p F a xs := .inr (.inl h)
theorem Sq.lst (h : F a = some (.lst xs)) : Sq K p F a xs := .inl (.of h)
theorem Sq.tup (h : F a = some (.tup xs)) : Sq K p F a xs := .inr (.inl (.of h))
theorem Sq.own : Sq K (.own p a (.lst xs)) F a xs := .inr (.inr (.inl ⟨rfl, rfl⟩))
theorem Sq.own2 : Sq K (.own (.own p a (.lst xs)) q o) F a xs := .inr (.inr (.inr (.inl ⟨rfl, rfl⟩)))
theorem Sq.own3 {q' : Addr} {o' : HO} : Sq K (.own (.own (.own p a (.lst xs)) q o) q' o') F a xs := .inr (.inr (.inr (.inr (.inl ⟨rfl, rfl⟩))))

/-! ### what evaluates to what -/
def EvP (p : Wd) (te : TE) (σ : St) (F : Hp) (P : V → Hp → Prop) : Prop := ∀ F1 H, Same F F1 → At p F1 H → ∀ Q : VK, (∀ v F2 H2, Same F1 F2 → At p F2 H2 → P v F2 → Q v H2) → te σ H Q
def Ev (p : Wd) (te : TE) (σ : St) (F : Hp) (v : V) : Prop := ∀ F1 H, Same F F1 → At p F1 H → ∀ Q : VK, (∀ H2, At p F1 H2 → Q v H2) → te σ H Q
def EvT (p : Wd) (tt : TT) (σ : St) (F : Hp) (b : Bool) : Prop := ∀ F1 H, Same F F1 → At p F1 H → ∀ Q : Bool → Hp → Prop, (∀ H2, At p F1 H2 → Q b H2) → tt σ H Q
def EvTP (p : Wd) (tt : TT) (σ : St) (F : Hp) (P : Bool → Prop) : Prop := ∀ F1 H, Same F F1 → At p F1 H → ∀ Q : Bool → Hp → Prop, (∀ b H2, At p F1 H2 → P b → Q b H2) → tt σ H Q
def EvA (p : Wd) (ta : TA) (σ : St) (F : Hp) (vs : List V) : Prop := ∀ F1 H, Same F F1 → At p F1 H → ∀ Q : List V → Hp → Prop, (∀ H2, At p F1 H2 → Q vs H2) → ta σ H Q
def EvAP (p : Wd) (ta : TA) (σ : St) (F : Hp) (P : List V → Hp → Prop) : Prop := ∀ F1 H, Same F F1 → At p F1 H → ∀ Q : List V → Hp → Prop, (∀ vs F2 H2, Same F1 F2 → At p F2 H2 → P vs F2 → Q vs H2) → ta σ H Q
variable {σ : St} {ta tb tc te : TE} {t : TA} {tt tu : TT} {v x y z : V} {P P' : V → Hp → Prop} {i j k : Int}
theorem Ev.mono (e : Same F F') (h : Ev p te σ F v) : Ev p te σ F' v := fun F1 H a => h F1 H (e.trans a)
theorem EvP.mono (e : Same F F') (h : EvP p te σ F P) : EvP p te σ F' P := fun F1 H a => h F1 H (e.trans a)
theorem EvT.mono {b : Bool} (e : Same F F') (h : EvT p tt σ F b) : EvT p tt σ F' b := fun F1 H a => h F1 H (e.trans a)
theorem EvA.mono {vs : List V} (e : Same F F') (h : EvA p t σ F vs) : EvA p t σ F' vs := fun F1 H a => h F1 H (e.trans a)
theorem Ev.toP (h : Ev p te σ F v) : EvP p te σ F (fun w _ => w = v) := fun F1 H e a Q q => h F1 H e a Q fun H2 a2 => q v F1 H2 (Same.refl _) a2 rfl
theorem Ev.toPP (h : Ev p te σ F v) (k : ∀ F2, Same F F2 → P v F2) : EvP p te σ F P := fun F1 H e a Q q => h F1 H e a Q fun H2 a2 => q v F1 H2 (Same.refl _) a2 (k F1 e)
theorem EvP.imp (h : EvP p te σ F P) (f : ∀ v F2, Same F F2 → P v F2 → P' v F2) : EvP p te σ F P' := fun F1 H e a Q q => h F1 H e a Q fun v F2 H2 e2 a2 po => q v F2 H2 e2 a2 (f v F2 (e.trans e2) po)
theorem EvP.toV (h : EvP p te σ F (fun w _ => w = v)) : Ev p te σ F v := fun F1 H e a Q q => h F1 H e a Q fun w F2 H2 e2 a2 ew => ew ▸ q H2 (a2.less e2)
theorem Ev.is {w : V} (h : Ev p te σ F v) (e : v = w) : Ev p te σ F w := e ▸ h
theorem EvT.is {b c : Bool} (h : EvT p tt σ F b) (e : b = c) : EvT p tt σ F c := e ▸ h
theorem ev_var {n : Nat} (h : σ[n]? = some (some v)) : Ev p (tVar n) σ F v := fun F1 H e a _ q => ⟨v, h, q H a⟩
theorem ev_c : Ev p (tC v) σ F v := fun F1 H e a _ q => q H a
/-- two values, an operation -/
theorem ev_op {r : R2} (ha : Ev p ta σ F x) (hb : Ev p tb σ F y) (hr : ∀ F1 H, Same F F1 → At p F1 H → ∀ Q : VK, (∀ v F2 H2, Same F1 F2 → At p F2 H2 → P v F2 → Q v H2) → r x y H Q) : EvP p (tOp r ta tb) σ F P := fun F1 H e a Q q =>
  ha F1 H e a _ fun H2 a2 => hb F1 H2 e a2 _ fun H3 a3 => hr F1 H3 e a3 Q q
theorem ev_opV {r : R2} (ha : Ev p ta σ F x) (hb : Ev p tb σ F y) (hr : ∀ F1 H, Same F F1 → At p F1 H → ∀ Q : VK, Q z H → r x y H Q) : Ev p (tOp r ta tb) σ F z := fun F1 H e a Q q =>
  ha F1 H e a _ fun H2 a2 => hb F1 H2 e a2 _ fun H3 a3 => hr F1 H3 e a3 Q (q H3 a3)
/-- the operands as they come -/
theorem ev_opP {r : R2} {Pa : V → Hp → Prop} {Pb : V → V → Hp → Prop} (ha : EvP p ta σ F Pa) (hb : ∀ x F1, Same F F1 → Pa x F1 → EvP p tb σ F1 (Pb x)) (hr : ∀ x y F1 F2 H, Same F F1 → Pa x F1 → Same F1 F2 → Pb x y F2 → At p F2 H → ∀ Q : VK, (∀ v F3 H3, Same F2 F3 → At p F3 H3 → P v F3 → Q v H3) → r x y H Q) :
    EvP p (tOp r ta tb) σ F P := fun F1 H e a Q q =>
  ha F1 H e a _ fun x F2 H2 e2 a2 px => hb x F2 (e.trans e2) px F2 H2 (Same.refl _) a2 _ fun y F3 H3 e3 a3 py => hr x y F2 F3 H3 (e.trans e2) px e3 py a3 Q fun v F4 H4 e4 a4 po => q v F4 H4 ((e2.trans e3).trans e4) a4 po
theorem ev_I0 {g : Int → Int → V} (ha : Ev p ta σ F (.int i)) (hb : Ev p tb σ F (.int j)) : Ev p (tOp (rI0 g) ta tb) σ F (g i j) := ev_opV ha hb fun _ _ _ _ _ q => ⟨i, j, rfl, rfl, q⟩
theorem ev_I {C : Int → Int → Prop} {g : Int → Int → V} (ha : Ev p ta σ F (.int i)) (hb : Ev p tb σ F (.int j)) (hc : C i j) : Ev p (tOp (rI C g) ta tb) σ F (g i j) := ev_opV ha hb fun _ _ _ _ _ q => ⟨i, j, rfl, rfl, hc, q⟩
theorem ev_eq (ha : Ev p ta σ F x) (hb : Ev p tb σ F y) (hs : scal x y = true) : Ev p (tOp rEq ta tb) σ F (.bl (decide (x = y))) := ev_opV ha hb fun _ _ _ _ _ q => ⟨hs, q⟩
theorem ev_ne (ha : Ev p ta σ F x) (hb : Ev p tb σ F y) (hs : scal x y = true) : Ev p (tOp rNe ta tb) σ F (.bl (!decide (x = y))) := ev_opV ha hb fun _ _ _ _ _ q => ⟨hs, q⟩
def rIsN : R2 := fun x y H Q => y = .non ∧ Q (.bl (decide (x = .non))) H
def rNotN : R2 := fun x y H Q => y = .non ∧ Q (.bl (!decide (x = .non))) H
theorem o_isN {X : Cx} : OpR X (compareOp .Is) rIsN := op_isN
theorem o_notN {X : Cx} : OpR X (compareOp .IsNot) rNotN := op_notN
theorem ev_isN (ha : Ev p ta σ F x) : Ev p (tOp rIsN ta (tC .non)) σ F (.bl (decide (x = .non))) := ev_opV ha ev_c fun _ _ _ _ _ q => ⟨rfl, q⟩
theorem ev_notN (ha : Ev p ta σ F x) : Ev p (tOp rNotN ta (tC .non)) σ F (.bl (!decide (x = .non))) := ev_opV ha ev_c fun _ _ _ _ _ q => ⟨rfl, q⟩
theorem ev_neg (ha : Ev p ta σ F (.int i)) : Ev p (tUn (rU fun i => .int (-i)) ta) σ F (.int (-i)) := fun F1 H e a Q q => ha F1 H e a _ fun H2 a2 => ⟨i, rfl, q H2 a2⟩
theorem ev_ix (ha : Ev p ta σ F (.ref a)) (hb : Ev p tb σ F (.int i)) (h : Sq K p F a xs) (hi : atI xs i = some v) : Ev p (tOp (rIx K) ta tb) σ F v := ev_opV ha hb fun F1 H e at1 Q q => by
  rcases at1.s (h.mono e) with h | h
  · exact .inl ⟨a, xs, i, v, rfl, rfl, h, hi, q⟩
  · exact .inr (.inl ⟨a, xs, i, v, rfl, rfl, h, hi, q⟩)
/-- where the indexed thing is made on the way -/
theorem ev_ixP (ha : EvP p ta σ F (fun v F1 => ∃ a xs, v = .ref a ∧ Sq K p F1 a xs ∧ P' (.ref a) F1 ∧ ∃ n : Nat, n < xs.length ∧ Ev p tb σ F1 (.int (n : Int)) ∧ ∀ w, xs[n]? = some w → P w F1)) : EvP p (tOp (rIx K) ta tb) σ F P := fun F1 H e at1 Q q =>
  ha F1 H e at1 _ fun x F2 H2 e2 at2 ⟨a, xs, ev, hx, _, n, hn, hb, po⟩ => hb F2 H2 (Same.refl _) at2 _ fun H3 at3 => by
    have hw : xs[n]? = some xs[n] := by simp [hn]
    have hi : atI xs (n : Int) = some xs[n] := atI_nat hw
    rcases at3.s hx with h | h
    · exact .inl ⟨a, xs, _, _, ev, rfl, h, hi, q _ F2 H3 e2 at3 (po _ hw)⟩
    · exact .inr (.inl ⟨a, xs, _, _, ev, rfl, h, hi, q _ F2 H3 e2 at3 (po _ hw)⟩)
theorem ev_chain {r r' : R2} {b c : Bool} (ha : Ev p ta σ F x) (hb : Ev p tb σ F y) (hc : b = true → Ev p tc σ F z) (hr : ∀ F1 H, Same F F1 → At p F1 H → ∀ Q : VK, Q (.bl b) H → r x y H Q) (hr' : b = true → ∀ F1 H, Same F F1 → At p F1 H → ∀ Q : VK, Q (.bl c) H → r' y z H Q) :
    Ev p (tChain r r' ta tb tc) σ F (.bl (b && c)) := fun F1 H e a Q q =>
  ha F1 H e a _ fun H2 a2 => hb F1 H2 e a2 _ fun H3 a3 => hr F1 H3 e a3 _ ⟨b, rfl, by
    cases b with
    | true =>
      show tc σ H3 _
      exact hc rfl F1 H3 e a3 _ fun H4 a4 => hr' rfl F1 H4 e a4 Q (q H4 a4)
    | false =>
      show Q (.bl false) H3
      exact q H3 a3⟩
theorem ev_andV {b c : Bool} (h1 : Ev p ta σ F (.bl b)) (h2 : b = true → Ev p tb σ F (.bl c)) : Ev p (tAndV ta tb) σ F (.bl (b && c)) := fun F1 H e a Q q => h1 F1 H e a _ fun H2 a2 => ⟨b, rfl, by
  cases b with
  | true =>
    show tb σ H2 Q
    exact h2 rfl F1 H2 e a2 Q fun H3 a3 => q H3 a3
  | false =>
    show Q (.bl false) H2
    exact q H2 a2⟩
theorem ev_notV {b : Bool} (h1 : Ev p ta σ F (.bl b)) : Ev p (tNotV ta) σ F (.bl (!b)) := fun F1 H e a _ q => h1 F1 H e a _ fun H2 a2 => ⟨b, rfl, q H2 a2⟩
theorem ev_ifT {b : Bool} (h : EvT p tt σ F b) (h1 : b = true → EvP p ta σ F P) (h2 : b = false → EvP p tb σ F P) : EvP p (tIf tt ta tb) σ F P := fun F1 H e a Q q => h F1 H e a _ fun H2 a2 => by
  cases b with
  | true =>
    show ta σ H2 Q
    exact h1 rfl F1 H2 e a2 Q q
  | false =>
    show tb σ H2 Q
    exact h2 rfl F1 H2 e a2 Q q
theorem ev_ifP {Pt : Bool → Prop} (h : EvTP p tt σ F Pt) (h1 : Pt true → EvP p ta σ F P) (h2 : Pt false → EvP p tb σ F P) : EvP p (tIf tt ta tb) σ F P := fun F1 H e a Q q => h F1 H e a _ fun b H2 a2 hb => by
  cases b with
  | true =>
    show ta σ H2 Q
    exact h1 hb F1 H2 e a2 Q q
  | false =>
    show tb σ H2 Q
    exact h2 hb F1 H2 e a2 Q q
/-! ### tests -/
theorem et_test {b : Bool} (h : Ev p te σ F (.bl b)) : EvT p (tTest te) σ F b := fun F1 H e a _ q => h F1 H e a _ fun H2 a2 => ⟨b, rfl, q H2 a2⟩
theorem et_B {b : Bool} (h : Ev p te σ F (.bl b)) : EvT p (tB te) σ F b := fun F1 H e a _ q => h F1 H e a _ fun H2 a2 => ⟨b, rfl, q H2 a2⟩
/-- a value's truth -/
def tTru (K : PySem.W.Frag) (ta : TE) : TT := fun σ H Q => ta σ H fun x H' => ∃ k, TruV K x H' k ∧ Q k H'
theorem et_tru {b : Bool} (h : Ev p te σ F x) (ht : ∀ F1 H, Same F F1 → At p F1 H → TruV K x H b) : EvT p (tTru K te) σ F b := fun F1 H e a _ q => h F1 H e a _ fun H2 a2 => ⟨b, ht F1 H2 e a2, q H2 a2⟩
theorem et_truP {Pt : Bool → Prop} (h : EvP p te σ F P) (ht : ∀ v F1 H, Same F F1 → P v F1 → At p F1 H → ∃ b, TruV K v H b ∧ Pt b) : EvTP p (tTru K te) σ F Pt := fun F1 H e a _ q => h F1 H e a _ fun v F2 H2 e2 a2 po => by
  obtain ⟨b, tv, pb⟩ := ht v F2 H2 (e.trans e2) po a2
  exact ⟨b, tv, q b H2 (a2.less e2) pb⟩
theorem et_testP {Pt : Bool → Prop} (h : EvP p te σ F (fun v _ => ∃ b, v = .bl b ∧ Pt b)) : EvTP p (tTest te) σ F Pt := fun F1 H e a _ q => h F1 H e a _ fun v F2 H2 e2 a2 ⟨b, ev, pb⟩ => ⟨b, ev, q b H2 (a2.less e2) pb⟩
theorem et_BP {Pt : Bool → Prop} (h : EvP p te σ F (fun v _ => ∃ b, v = .bl b ∧ Pt b)) : EvTP p (tB te) σ F Pt := fun F1 H e a _ q => h F1 H e a _ fun v F2 H2 e2 a2 ⟨b, ev, pb⟩ => ⟨b, ev, q b H2 (a2.less e2) pb⟩
theorem et_int (h : Ev p te σ F (.int i)) : EvT p (tTru K te) σ F (i != 0) := et_tru h fun _ _ _ _ => rfl
theorem et_seq (h : Ev p te σ F (.ref a)) (hx : Sq K p F a xs) : EvT p (tTru K te) σ F (!xs.isEmpty) := et_tru h fun F1 H e at1 => by
  rcases at1.s (hx.mono e) with h | h
  · exact .inl ⟨xs, h, rfl⟩
  · exact .inr (.inl ⟨xs, h, rfl⟩)
theorem et_and {b c : Bool} (h1 : EvT p tt σ F b) (h2 : b = true → EvT p tu σ F c) : EvT p (tAnd tt tu) σ F (b && c) := fun F1 H e a Q q => h1 F1 H e a _ fun H2 a2 => by
  cases b with
  | true =>
    show tu σ H2 Q
    exact h2 rfl F1 H2 e a2 Q q
  | false =>
    show Q false H2
    exact q H2 a2
theorem et_or {b c : Bool} (h1 : EvT p tt σ F b) (h2 : b = false → EvT p tu σ F c) : EvT p (tOr tt tu) σ F (b || c) := fun F1 H e a Q q => h1 F1 H e a _ fun H2 a2 => by
  cases b with
  | true =>
    show Q true H2
    exact q H2 a2
  | false =>
    show tu σ H2 Q
    exact h2 rfl F1 H2 e a2 Q q
theorem et_not {b : Bool} (h1 : EvT p tt σ F b) : EvT p (tNot tt) σ F (!b) := fun F1 H e a _ q => h1 F1 H e a _ fun H2 a2 => q H2 a2
theorem EvT.toP {b : Bool} (h : EvT p tt σ F b) : EvTP p tt σ F (fun c => c = b) := fun F1 H e a Q q => h F1 H e a _ fun H2 a2 => q b H2 a2 rfl
theorem et_yes : EvTP p tYes σ F (fun b => b = true) := fun F1 H e a Q q => q true H a rfl
/-! ### argument lists, displays, calls -/
theorem ea_nil : EvA p tNil σ F [] := fun F1 H e a _ q => q H a
theorem ea_cons {vs : List V} {tr : TA} (h : Ev p ta σ F x) (hr : EvA p tr σ F vs) : EvA p (tCons ta tr) σ F (x :: vs) := fun F1 H e a _ q =>
  h F1 H e a _ fun H2 a2 => hr F1 H2 e a2 _ fun H3 a3 => q H3 a3
theorem EvA.toP {vs : List V} (h : EvA p t σ F vs) : EvAP p t σ F (fun ws _ => ws = vs) := fun F1 H e a Q q => h F1 H e a Q fun H2 a2 => q vs F1 H2 (Same.refl _) a2 rfl
theorem eap_nil : EvAP p tNil σ F (fun vs _ => vs = []) := fun F1 H e a _ q => q [] F1 H (Same.refl _) a rfl
theorem eap_cons {tr : TA} {Pr : V → List V → Hp → Prop} (h : EvP p ta σ F P) (hr : ∀ x F1, Same F F1 → P x F1 → EvAP p tr σ F1 (Pr x)) :
    EvAP p (tCons ta tr) σ F (fun vs F2 => ∃ x r, vs = x :: r ∧ Pr x r F2) := fun F1 H e a Q q =>
  h F1 H e a _ fun x F2 H2 e2 a2 px => hr x F2 (e.trans e2) px F2 H2 (Same.refl _) a2 _ fun r F3 H3 e3 a3 pr => q (x :: r) F3 H3 (e2.trans e3) a3 ⟨x, r, rfl, pr⟩
/-- one argument as it comes -/
theorem eap_one (h : EvP p ta σ F P) : EvAP p (tCons ta tNil) σ F (fun vs F2 => ∃ x, vs = [x] ∧ P x F2) := fun F1 H e a Q q =>
  h F1 H e a _ fun x F2 H2 e2 a2 px => q [x] F2 H2 e2 a2 ⟨x, rfl, px⟩
theorem EvAP.imp {Pa Pb : List V → Hp → Prop} (h : EvAP p t σ F Pa) (f : ∀ v F2, Same F F2 → Pa v F2 → Pb v F2) : EvAP p t σ F Pb := fun F1 H e a Q q => h F1 H e a Q fun v F2 H2 e2 a2 po => q v F2 H2 e2 a2 (f v F2 (e.trans e2) po)
/-- a new thing: its place, that F did not know it -/
def NewP (F : Hp) (o : HO) (v : V) (F2 : Hp) : Prop := ∃ q, v = .ref q ∧ F q = none ∧ F2 q = some o
theorem ev_tup {vs : List V} (h : EvA p t σ F vs) (hl : vs.length ≤ 100000) : EvP p (tTup t) σ F (NewP F (.tup vs)) := fun F1 H e a Q k =>
  h F1 H e a _ fun H2 a2 => ⟨Nat.le_trans hl (by decide), fun q n => k _ _ _ (same_new (a2.free n)) (a2.new n) ⟨q, rfl, e.free (a2.free n), upd_same⟩⟩
theorem ev_lst {vs : List V} (h : EvA p t σ F vs) (hl : vs.length ≤ 100000) : EvP p (tLst t) σ F (NewP F (.lst vs)) := fun F1 H e a Q k =>
  h F1 H e a _ fun H2 a2 => ⟨Nat.le_trans hl (by decide), fun q n => k _ _ _ (same_new (a2.free n)) (a2.new n) ⟨q, rfl, e.free (a2.free n), upd_same⟩⟩
theorem ev_tupP {Pv : List V → Hp → Prop} (h : EvAP p t σ F Pv) (hl : ∀ vs F2, Pv vs F2 → vs.length ≤ 100000) :
    EvP p (tTup t) σ F (fun v F2 => ∃ q vs F1, v = .ref q ∧ F q = none ∧ F1 q = none ∧ F2 = upd F1 q (.tup vs) ∧ Same F F1 ∧ Pv vs F1) := fun F1 H e a Q k =>
  h F1 H e a _ fun vs F2 H2 e2 a2 pv => ⟨Nat.le_trans (hl _ _ pv) (by decide), fun q n => k _ _ _ (e2.trans (same_new (a2.free n))) (a2.new n) ⟨q, vs, F2, rfl, (e.trans e2).free (a2.free n), a2.free n, rfl, e.trans e2, pv⟩⟩
theorem ev_lstP {Pv : List V → Hp → Prop} (h : EvAP p t σ F Pv) (hl : ∀ vs F2, Pv vs F2 → vs.length ≤ 100000) :
    EvP p (tLst t) σ F (fun v F2 => ∃ q vs F1, v = .ref q ∧ F q = none ∧ F1 q = none ∧ F2 = upd F1 q (.lst vs) ∧ Same F F1 ∧ Pv vs F1) := fun F1 H e a Q k =>
  h F1 H e a _ fun vs F2 H2 e2 a2 pv => ⟨Nat.le_trans (hl _ _ pv) (by decide), fun q n => k _ _ _ (e2.trans (same_new (a2.free n))) (a2.new n) ⟨q, vs, F2, rfl, (e.trans e2).free (a2.free n), a2.free n, rfl, e.trans e2, pv⟩⟩
/-- what a promise asks and gives, in a world -/
def Back (p : Wd) (F : Hp) (P : V → Hp → Prop) (Q : VK) : Prop := ∀ v F2 H2, Same F F2 → At p F2 H2 → P v F2 → Q v H2
/-- a def's call -/
theorem ev_call {sp : Sp} {E : XK} {vs : List V} (ha : EvA p t σ F vs) (hs : ∀ F1 H, Same F F1 → At p F1 H → ∀ Q : VK, Back p F1 P Q → sp vs H Q E) : EvP p (tCall sp [] E t) σ F P := fun F1 H e a Q q =>
  ha F1 H e a _ fun H2 a2 => by
    show sp (vs ++ []) H2 Q E
    rw [List.append_nil]
    exact hs F1 H2 e a2 Q q
theorem ev_callP {sp : Sp} {E : XK} {Pv : List V → Hp → Prop} (ha : EvAP p t σ F Pv) (hs : ∀ vs F1 H, Same F F1 → Pv vs F1 → At p F1 H → ∀ Q : VK, Back p F1 P Q → sp vs H Q E) : EvP p (tCall sp [] E t) σ F P := fun F1 H e a Q q =>
  ha F1 H e a _ fun vs F2 H2 e2 a2 pv => by
    show sp (vs ++ []) H2 Q E
    rw [List.append_nil]
    exact hs vs F2 H2 (e.trans e2) pv a2 Q fun v F3 H3 e3 a3 po => q v F3 H3 (e2.trans e3) a3 po
/-- an object made -/
theorem ev_make {sp : Sp} {E : XK} {C : Addr} {vs : List V} (ha : EvA p t σ F vs) (hs : ∀ F1 H x dx, Same F F1 → At p F1 H → H x = none → H dx = none → dx ≠ x → ∀ Q : VK, Back p F1 P Q → sp (.ref x :: vs) (upd (upd H dx (.own x)) x (.ins C dx [])) (fun v H2 => v = .non ∧ Q (.ref x) H2) E) : EvP p (tMake C sp [] E t) σ F P := fun F1 H e a Q q =>
  ha F1 H e a _ fun H2 a2 x dx hx hdx hne => by
    show sp (.ref x :: (vs ++ [])) _ _ E
    rw [List.append_nil]
    exact hs F1 H2 x dx e a2 hx hdx hne Q q
/-- a built-in's call -/
theorem ev_cb {r : List V → Hp → VK → Prop} {vs : List V} (ha : EvA p t σ F vs) (hs : ∀ F1 H, Same F F1 → At p F1 H → ∀ Q : VK, Back p F1 P Q → r vs H Q) : EvP p (tCB r t) σ F P := fun F1 H e a Q q =>
  ha F1 H e a _ fun H2 a2 => hs F1 H2 e a2 Q q
theorem ev_cbV {r : List V → Hp → VK → Prop} {vs : List V} (ha : EvA p t σ F vs) (hs : ∀ F1 H, Same F F1 → At p F1 H → ∀ Q : VK, Q z H → r vs H Q) : Ev p (tCB r t) σ F z := fun F1 H e a Q q =>
  ha F1 H e a _ fun H2 a2 => hs F1 H2 e a2 Q (q H2 a2)
theorem ev_cbP {r : List V → Hp → VK → Prop} {Pv : List V → Hp → Prop} (ha : EvAP p t σ F Pv) (hs : ∀ vs F1 H, Same F F1 → Pv vs F1 → At p F1 H → ∀ Q : VK, Back p F1 P Q → r vs H Q) : EvP p (tCB r t) σ F P := fun F1 H e a Q q =>
  ha F1 H e a _ fun vs F2 H2 e2 a2 pv => hs vs F2 H2 (e.trans e2) pv a2 Q fun v F3 H3 e3 a3 po => q v F3 H3 (e2.trans e3) a3 po
/-! ### statements -/
variable {D : Ends} {t1 t2 ts : TS} {n : Nat} {g : TG}
theorem sq (h : t1 { D with nx := t2 D } σ H) : tSeq t1 t2 D σ H := h
theorem st_asg (a : At p F H) (h : EvP p te σ F P) (k : ∀ v F1 H1, Same F F1 → At p F1 H1 → P v F1 → D.nx (σ.set n (some v)) H1) : tAsg te (gName n) D σ H := h F H (Same.refl _) a _ k
theorem st_asgV (a : At p F H) (h : Ev p te σ F v) (k : ∀ H1, At p F H1 → D.nx (σ.set n (some v)) H1) : tAsg te (gName n) D σ H := h F H (Same.refl _) a _ k
theorem st_asgT (a : At p F H) (h : EvP p te σ F P) (k : ∀ v F1 H1, Same F F1 → At p F1 H1 → P v F1 → g v σ H1 D.nx) : tAsg te g D σ H := h F H (Same.refl _) a _ k
/-- a new list, one's own from now on -/
theorem st_asgM {o : HO} (a : At p F H) (h : EvP p te σ F (NewP F o)) (k : ∀ q H1, F q = none → At (.own p q o) F H1 → D.nx (σ.set n (some (.ref q))) H1) : tAsg te (gName n) D σ H :=
  h F H (Same.refl _) a _ fun v F2 H2 e2 a2 ⟨q, ev, nq, hq⟩ => by
    subst ev
    exact k q H2 nq (a2.take hq nq e2)
theorem st_ret (a : At p F H) (h : EvP p te σ F P) (k : ∀ v F1 H1, Same F F1 → At p F1 H1 → P v F1 → D.rt v H1) : tRet te D σ H := h F H (Same.refl _) a _ k
theorem st_retV (a : At p F H) (h : Ev p te σ F v) (k : ∀ H1, At p F H1 → D.rt v H1) : tRet te D σ H := h F H (Same.refl _) a _ k
theorem st_if {b : Bool} (a : At p F H) (h : EvT p tt σ F b) (h1 : b = true → ∀ H1, At p F H1 → t1 D σ H1) (h2 : b = false → ∀ H1, At p F H1 → t2 D σ H1) : tIfS tt t1 t2 D σ H := h F H (Same.refl _) a _ fun H2 a2 => by
  cases b with
  | true => exact h1 rfl H2 a2
  | false => exact h2 rfl H2 a2
theorem st_ifP {Pt : Bool → Prop} (a : At p F H) (h : EvTP p tt σ F Pt) (h1 : Pt true → ∀ H1, At p F H1 → t1 D σ H1) (h2 : Pt false → ∀ H1, At p F H1 → t2 D σ H1) : tIfS tt t1 t2 D σ H := h F H (Same.refl _) a _ fun b H2 a2 hb => by
  cases b with
  | true => exact h1 hb H2 a2
  | false => exact h2 hb H2 a2
/-- the test is known -/
theorem st_no (a : At p F H) (h : EvT p tt σ F false) (h2 : ∀ H1, At p F H1 → t2 D σ H1) : tIfS tt t1 t2 D σ H := h F H (Same.refl _) a _ fun H2 a2 => h2 H2 a2
theorem st_yes (a : At p F H) (h : EvT p tt σ F true) (h1 : ∀ H1, At p F H1 → t1 D σ H1) : tIfS tt t1 t2 D σ H := h F H (Same.refl _) a _ fun H2 a2 => h1 H2 a2
theorem st_next (h : D.nx σ H) : tNext D σ H := h
theorem st_aug {f : Int → Int → Int} (a : At p F H) (hx : σ[n]? = some (some (.int i))) (h : Ev p te σ F (.int j)) (k : ∀ H1, At p F H1 → D.nx (σ.set n (some (.int (f i j)))) H1) : tAug n te (ipI f) D σ H :=
  ⟨_, hx, h F H (Same.refl _) a _ fun H2 a2 => ⟨i, j, rfl, rfl, k H2 a2⟩⟩
theorem tyv_lst {x : Addr} (h : H x = some (.lst xs)) : tyV K "list" (.ref x) H := .inl ⟨rfl, _, .of h⟩
/-- own.append(e) -/
theorem st_app {tl : TE} (a : At (.own p q (.lst xs)) F H) (hl : Ev (.own p q (.lst xs)) tl σ F (.ref q)) (h : EvP (.own p q (.lst xs)) te σ F P) (hz : xs.length < 100000) (k : ∀ v F1 H1, Same F F1 → At (.own p q (.lst (xs ++ [v]))) F1 H1 → P v F1 → D.nx σ H1) :
    tDrop (tBM K "list" rAppend tl (tCons te tNil)) D σ H := hl F H (Same.refl _) a _ fun H1 a1 => ⟨tyv_lst a1.mine_at, h F H1 (Same.refl _) a1 _ fun v F2 H2 e2 a2 po =>
    ⟨q, xs, v, rfl, rfl, a2.mine_at, Nat.lt_of_lt_of_le hz (by decide), k v F2 _ e2 a2.put po⟩⟩
/-- own[i] = e -/
theorem st_set {tl ti : TE} {m : Nat} (a : At (.own p q (.lst xs)) F H) (h : EvP (.own p q (.lst xs)) te σ F P) (hl : Ev (.own p q (.lst xs)) tl σ F (.ref q)) (hi : Ev (.own p q (.lst xs)) ti σ F (.int (m : Int))) (hm : m < xs.length)
    (k : ∀ v F1 H1, Same F F1 → At (.own p q (.lst (xs.set m v))) F1 H1 → P v F1 → D.nx σ H1) : tAsg te (gSub tl ti rSetL) D σ H := h F H (Same.refl _) a _ fun v F2 H2 e2 a2 po =>
  hl F2 H2 e2 a2 _ fun H3 a3 => hi F2 H3 e2 a3 _ fun H4 a4 => by
    refine ⟨q, xs, (m : Int), m, rfl, rfl, a4.mine_at, ?_, k v F2 _ e2 a4.put po⟩
    unfold ixN
    rw [if_pos (Int.natCast_nonneg m), if_pos (by omega)]
    rfl
end
end PA
/-! P1a: enumerate over a tuple, over a list or a tuple. -/
namespace PA
open PySem
open AutoSeq1 (wpAny_loadPart')
theorem enum_new_tup (l : Addr) (items : Array Value) (n : Nat) (dct : Option Addr) (sl : Array (Option Value)) :
    Meets (Builtin.«enumerate.__new__» ⟨[.type "enumerate", .ref l], []⟩) (fun _ R s => s.heap.get? l = some { cls := .type "tuple", dict := dct, data := .seq items n, slots := sl } ∧
      R (.ok (.ret (.ref (s.heap.push { cls := .type "tuple_iterator", data := .fields #[.ref l, .int 0 0] }).objs.size)))
        { s with heap := (s.heap.push { cls := .type "tuple_iterator", data := .fields #[.ref l, .int 0 0] }).push { cls := .type "enumerate", data := .fields #[.none, .bool false, .ref s.heap.objs.size, rawInt 0, .none, .none] } }) :=
  .of_wp fun prog w A R s h => by
    obtain ⟨hp, g, d, tk, os⟩ := s
    obtain ⟨hl, h⟩ := h
    have hsub := sub_enumerate
    have hT : Heap.IsTuple (Shared.heap ⟨hp, g, d, tk, os⟩) l items := ⟨_, hl, rfl, n, rfl⟩
    wp_walk using wpAny_loadPart' hl
    refine wpAny_stack_any fun st => wpAny_pure ?_
    split
    · rename_i c _ _ _ _ _
      cases (c == Value.type "enumerate") <;> (wp_walk using wpAny_loadPart' hl, wpAny_pyIter_tuple hT; exact ⟨_, rfl, h⟩)
    · wp_walk using wpAny_loadPart' hl, wpAny_pyIter_tuple hT
      exact ⟨_, rfl, h⟩
section
variable {prog : Program} {w : World} {A : Around} {E : Value → Shared → Prop} {s : Shared}
theorem call_enum_tup {l : Addr} {items : Array Value} {Q : Value → Shared → Prop} (hT : s.heap.IsTuple l items)
    (h : ∀ h', IsEnum h' (s.heap.objs.size + 1) s.heap.objs.size 0 .none → h'.IsTupleIter s.heap.objs.size l 0 → (∀ b o, s.heap.get? b = some o → h'.get? b = some o) → Q (.ref (s.heap.objs.size + 1)) { s with heap := h' }) :
    wpAny (model prog w) A (call (.type "enumerate") [.ref l]) Q E s := by
  obtain ⟨⟨c, dct, dt, sl⟩, hl, hc, n, hd⟩ := hT
  have hc' : c = .type "tuple" := hc
  have hd' : dt = .seq items n := hd
  subst hc' hd'
  refine callType_new F.called_enumerate (by decide) (F.typeCall_enumerate_1 _) (F.newCall_enumerate_1 _) (fun obj => F.args_object_init_2 obj _) F.entry_enumerate_new
    (enum_new_tup l items n dct sl) ⟨hl, ?_⟩
  have hz : (s.heap.push { cls := .type "tuple_iterator", data := .fields #[.ref l, .int 0 0] }).objs.size = s.heap.objs.size + 1 := Heap.size_push ..
  show _ ∧ _
  rw [hz]
  have he : IsEnum ((s.heap.push { cls := .type "tuple_iterator", data := .fields #[.ref l, .int 0 0] }).push
      { cls := .type "enumerate", data := .fields #[.none, .bool false, .ref s.heap.objs.size, rawInt 0, .none, .none] }) (s.heap.objs.size + 1) s.heap.objs.size 0 .none := by
    have q := Heap.get?_push_size (s.heap.push { cls := .type "tuple_iterator", data := .fields #[.ref l, .int 0 0] })
      (o := { cls := .type "enumerate", data := .fields #[.none, .bool false, .ref s.heap.objs.size, rawInt 0, .none, .none] }) rfl
    rw [hz] at q
    exact q
  exact ⟨⟨_, he, rfl⟩, h _ he ⟨_, Heap.get?_push_of_some _ (Heap.get?_push_size _ rfl), rfl, rfl⟩ fun b o x => Heap.get?_push_of_some _ (Heap.get?_push_of_some _ x)⟩
end
end PA
namespace PA
open PySem PyProof.Rows L2
/-- the tuple at a, each item in a new pair -/
def IteT (K : PySem.W.Frag) (a : Addr) : It :=
  ⟨fun i H => ∃ (xs : List V) (x : V), SqT K H a xs ∧ xs[i]? = some x, fun i H v H' => ∃ T x, v = .ref T ∧ H T = none ∧ H' = upd H T (.tup [.int (i : Nat), x]) ∧ ∀ xs, SqT K H a xs → xs[i]? = some x, fun i H => ∃ xs : List V, SqT K H a xs ∧ xs.length = i⟩
theorem turn_enumT {P : Program} {w : World} {K : PySem.W.Frag} {elts : List Expr} {kk : Nat} {tpos : Pos} (a e it : Addr) :
    Turn P w K (.Tuple elts kk tpos) (IteT K a) [e, it] e (fun i h => (∃ old, IsEnum h e it ((i : Nat) : Int) old) ∧ h.IsTupleIter it a i ∧ e ≠ it ∧ a ≠ it ∧ a ≠ e) where
  mem := by simp
  obj := fun i h st b hb => by
    obtain ⟨⟨old, he⟩, ⟨o, ho, hc, hd⟩, _⟩ := st
    have e' : b = e ∨ b = it := by simpa using hb
    rcases e' with z | z
    · rw [z]
      exact ⟨_, he, fun v q => nomatch q⟩
    · rw [z]
      exact ⟨o, ho, fun v q => by rw [hd] at q; cases q⟩
  keep := fun i h h' st k => by
    obtain ⟨⟨old, he⟩, hi, hne⟩ := st
    exact ⟨⟨old, k e (by simp) _ he⟩, hi.at fun o q => k it (by simp) o q, hne⟩
  item := by
    intro X hP hw hK hc i pins s σ H E I hf st hg
    subst hP hw hK
    obtain ⟨⟨old, he⟩, hit, hne, hai, hae⟩ := st
    obtain ⟨xs, x, hq, hx⟩ := hg
    obtain ⟨its, rv, p, hz⟩ := I.tuple hq
    obtain ⟨u, hu, ru⟩ := rv.get hx
    have hel : e < s.heap.objs.size := Heap.lt_size he
    have hil : it < s.heap.objs.size := by obtain ⟨_, q, _⟩ := hit; exact Heap.lt_size q
    have pT : s.heap.IsTuple a its.toArray := p
    have hlt : i < its.toArray.size := by
      have q := (List.getElem?_eq_some_iff.mp hu).1
      simpa using q
    have hhd : X.A.in1.handled = none := I.ok.hd hc
    refine wpAny_pyNext_enum_itemD (Draws.tuple hhd it a hai its.toArray) he ⟨hit, pT⟩ hlt hne (by simp [hne, Ne.symm hae]) fun x' h' tk hx' ho hst' hT hsz hk => ?_
    have ex : x' = u := by
      have q : its.toArray[i]? = some x' := hx'
      have q2 : its.toArray[i]? = some u := by simpa using hu
      rw [q] at q2
      exact Option.some.inj q2
    subst ex
    refine ⟨_, rfl, wpAny_letOwnedTupleGo_enum (s := { s with heap := h', toks := tk + 1 }) ho fun h'' he' sb => ?_⟩
    have hT2 : h''.get? s.heap.objs.size = some { cls := .type "tuple", data := .seq #[.int i tk, x'] } := (sb.2 _ (Nat.ne_of_gt hel)).trans hT
    have new : ObjOk X.prog X.w (upd H s.heap.objs.size (.tup [.int (i : Nat), x])) h'' s.heap.objs.size (.tup [.int (i : Nat), x]) :=
      ⟨by show 2 ≤ sizeLine; decide, [.int i tk, x'], .cons ⟨_, rfl⟩ (.cons ru .nil), ⟨_, hT2, rfl, _, rfl⟩⟩
    have I1 : Inv X pins σ (upd H s.heap.objs.size (.tup [.int (i : Nat), x])) { s with heap := h'', toks := tk + 1 } :=
      I.turnedNew (ch := [e, it]) (fun b ob hb q => (sb.2 b (fun z => hb (by simp [z]))).trans (hk b ob (fun z => hb (by simp [z])) (fun z => hb (by simp [z])) q)) hf (Nat.le_refl _) new
    refine ⟨.ref s.heap.objs.size, _, I1, rfl, ⟨_, x, rfl, I.hok.fresh (Nat.le_refl _), rfl, fun ys hy => by rw [I.tuple_inj hy hq]; exact hx⟩, ⟨⟨x', ?_⟩, hst'.1.at fun o q => (sb.2 it (Ne.symm hne)).trans q, hne, hai, hae⟩, fun b hb => ?_⟩
    · have e1 : ((i + 1 : Nat) : Int) = (i : Int) + 1 := by omega
      rw [e1]
      exact he'
    · have hb' : b < s.heap.objs.size := by
        have e' : b = e ∨ b = it := by simpa using hb
        rcases e' with z | z
        · rw [z]; exact hel
        · rw [z]; exact hil
      rw [upd_ne (Nat.ne_of_lt hb')]
      exact (hf b hb).1
  done := by
    intro X hP hw hK hc i pins s σ H E I hf st hg
    subst hP hw hK
    obtain ⟨⟨old, he⟩, hit, hne, hai, hae⟩ := st
    obtain ⟨xs, hq, hx⟩ := hg
    obtain ⟨its, rv, p, hz⟩ := I.tuple hq
    obtain ⟨f0, f1, f2, f3, f4, f5⟩ := hf it (by simp)
    have hl := rv.length
    have pT : s.heap.IsTuple a its.toArray := p
    have hhd : X.A.in1.handled = none := I.ok.hd hc
    have hsz : its.toArray.size = i := by simp; omega
    refine wpAny_pyNext_enum_endD (Draws.tuple hhd it a hai its.toArray) he ⟨by rw [hsz]; exact hit, pT⟩ fun h' eb => ⟨rfl, I.turned (t' := s.toks) (fun b o hb q => eb b o hb q) f0 f1 f3 f4 f5⟩
  self := fun A i s Q E st h => by
    obtain ⟨⟨_, he⟩, _⟩ := st
    exact wpAny_pyIter_enum he h
section
variable {X : Cx} {e : Expr} {ta : TA} {p pos tpos : Pos} {elts : List Expr} {kk : Nat}
/-- enumerate(e), e a list or a tuple -/
def iEnumA (K : PySem.W.Frag) (ta : TA) : TI := fun σ H R => ta σ H fun vs H1 => ∃ a, vs = [.ref a] ∧ (((∃ xs, SqL K H1 a xs) ∧ R (Ite K a) H1) ∨ ((∃ xs, SqT K H1 a xs) ∧ R (IteT K a) H1))
theorem pi_enumA (hg : Gl X "enumerate") (hm : X.mg "enumerate" = none) (ha : PA X [e] ta) (hs : starEach [e] X.env = [(false, eval e X.env)] := by rfl) :
    PI X (.Tuple elts kk tpos) (.Call (.Name "enumerate" p) [e] [] pos) (iEnumA X.K ta) := by
  refine ⟨fun pins s σ H R I h => ?_⟩
  refine Call_ (ld_blt I hg hm boot_enumerate (PyProof.Rows.callWith_type1 (thn (ha.run pos pins s σ H _ I h) fun us s1 ⟨vs, H1, I1, r1, q1⟩ => ?_) hs rfl))
  obtain ⟨a, ex, q⟩ := q1
  subst ex
  cases r1 with
  | cons r rr =>
    cases rr
    cases r
    have two : ∀ b, b ∈ [s1.heap.objs.size + 1, s1.heap.objs.size] → s1.heap.objs.size ≤ b := fun b hb => by
      have e' : b = s1.heap.objs.size + 1 ∨ b = s1.heap.objs.size := by simpa using hb
      rcases e' with z | z
      · rw [z]; exact Nat.le_add_right _ _
      · rw [z]; exact Nat.le_refl _
    rcases q with ⟨⟨xs, hq⟩, q⟩ | ⟨⟨xs, hq⟩, q⟩
    · obtain ⟨its, rv, p', hz⟩ := I1.list hq
      refine call_enumerate_list p'.isList fun h' he hit hsz hk => wpAny_pyIter_enum he ?_
      have I2 : Inv X pins σ H1 { s1 with heap := h' } := I1.kept (t' := s1.toks) hk
      exact ⟨s1.heap.objs.size + 1, [s1.heap.objs.size + 1, s1.heap.objs.size], _, _, H1, rfl, I2, turn_enum a (s1.heap.objs.size + 1) s1.heap.objs.size, ⟨⟨.none, he⟩, hit, Nat.succ_ne_self _⟩, fun b hb => I1.fpOk (two b hb) (I1.hok.fresh (two b hb)), q⟩
    · obtain ⟨its, rv, p', hz⟩ := I1.tuple hq
      have hl : a < s1.heap.objs.size := p'.lt
      refine call_enum_tup p' fun h' he hit hk => wpAny_pyIter_enum he ?_
      have I2 : Inv X pins σ H1 { s1 with heap := h' } := I1.kept (t' := s1.toks) hk
      exact ⟨s1.heap.objs.size + 1, [s1.heap.objs.size + 1, s1.heap.objs.size], _, _, H1, rfl, I2, turn_enumT a (s1.heap.objs.size + 1) s1.heap.objs.size, ⟨⟨.none, he⟩, hit, Nat.succ_ne_self _, Nat.ne_of_lt hl, Nat.ne_of_lt (Nat.lt_succ_of_lt hl)⟩, fun b hb => I1.fpOk (two b hb) (I1.hok.fresh (two b hb)), q⟩
end
end PA
/-! P1: targets, loops, comprehensions. -/
namespace PA
open PySem L2
section
variable {K : PySem.W.Frag} {p : Wd} {F F' F1 F2 H H' : Hp} {q a : Addr} {o u : HO} {xs : List V} {σ : St} {ta tb tc te tl : TE} {t : TA} {tt tu : TT} {v x y z : V} {P P' : V → Hp → Prop} {D : Ends} {t1 t2 ts : TS} {n : Nat} {g : TG}
/-! ### targets -/
theorem gt2 {i j : Nat} {Q : St → Hp → Prop} (h : SqT K H a [x, y]) (k : Q ((σ.set i (some x)).set j (some y)) H) : gTup K 2 (gCons (gName i) (gCons (gName j) gNil)) (.ref a) σ H Q :=
  ⟨a, _, rfl, h, rfl, _, _, rfl, _, _, rfl, rfl, k⟩
theorem gt3 {i j l : Nat} {Q : St → Hp → Prop} (h : SqT K H a [x, y, z]) (k : Q (((σ.set i (some x)).set j (some y)).set l (some z)) H) : gTup K 3 (gCons (gName i) (gCons (gName j) (gCons (gName l) gNil))) (.ref a) σ H Q :=
  ⟨a, _, rfl, h, rfl, _, _, rfl, _, _, rfl, _, _, rfl, rfl, k⟩
theorem gt5 {i j l m r : Nat} {x4 x5 : V} {Q : St → Hp → Prop} (h : SqT K H a [x, y, z, x4, x5]) (k : Q (((((σ.set i (some x)).set j (some y)).set l (some z)).set m (some x4)).set r (some x5)) H) :
    gTup K 5 (gCons (gName i) (gCons (gName j) (gCons (gName l) (gCons (gName m) (gCons (gName r) gNil))))) (.ref a) σ H Q :=
  ⟨a, _, rfl, h, rfl, _, _, rfl, _, _, rfl, _, _, rfl, _, _, rfl, _, _, rfl, rfl, k⟩
theorem gt12 {b : Addr} {i j l : Nat} {w : V} {Q : St → Hp → Prop} (h : SqT K H a [x, .ref b]) (hb : SqT K H b [y, w]) (k : Q (((σ.set i (some x)).set j (some y)).set l (some w)) H) :
    gTup K 2 (gCons (gName i) (gCons (gTup K 2 (gCons (gName j) (gCons (gName l) gNil))) gNil)) (.ref a) σ H Q :=
  ⟨a, _, rfl, h, rfl, _, _, rfl, _, _, rfl, gt2 hb ⟨rfl, k⟩⟩
/-! ### for: J says of the turn, the slots, the world and the known heap -/
abbrev LJ := Nat → St → Wd → Hp → Prop
/-- what stands between two turns -/
def Mid (F : Hp) (J : LJ) (i : Nat) (σ : St) (H : Hp) : Prop := ∃ p F', Same F F' ∧ At p F' H ∧ J i σ p F'
abbrev tn (F : Hp) (J : LJ) (i : Nat) (D : Ends) : Ends := { D with nx := Mid F J i, ct := Mid F J i, bk := D.nx }
theorem for_gen {It' : It} {n : Nat} {g : TG} {tb : TS} {D : Ends} {σ : St} {H : Hp} (Pv : Nat → St → Hp → Prop) (h0 : Pv 0 σ H) (hgo : ∀ i σ H, i < n → Pv i σ H → It'.go i H) (hst : ∀ σ H, Pv n σ H → It'.stop n H)
    (hs : ∀ i σ H x H', i < n → Pv i σ H → It'.yld i H x H' → g x σ H' fun σ2 H2 => tb { D with nx := Pv (i + 1), ct := Pv (i + 1), bk := D.nx } σ2 H2) (hd : ∀ σ H, Pv n σ H → D.nx σ H) :
    ∃ W : Nat → Nat → St → Hp → Prop, (∃ m, W 0 m σ H) ∧ ∀ i m σ H, W i m σ H →
      (It'.stop i H ∧ D.nx σ H) ∨ (It'.go i H ∧ ∃ N : St → Hp → Prop, (∀ σ' H', N σ' H' → ∃ m', m' < m ∧ W (i + 1) m' σ' H') ∧ ∀ x H', It'.yld i H x H' → g x σ H' fun σ2 H2 => tb { D with nx := N, ct := N, bk := D.nx } σ2 H2) := by
  refine ⟨fun i m σ H => m = n - i ∧ i ≤ n ∧ Pv i σ H, ⟨n, by simp, Nat.zero_le _, h0⟩, ?_⟩
  rintro i m σ H ⟨rfl, hi, pv⟩
  by_cases hlt : i < n
  · exact .inr ⟨hgo i σ H hlt pv, Pv (i + 1), fun σ' H' p' => ⟨n - (i + 1), by omega, rfl, hlt, p'⟩, fun x H' y => hs i σ H x H' hlt pv y⟩
  · have e : i = n := by omega
    subst e
    exact .inl ⟨hst σ H pv, hd σ H pv⟩
variable {J : LJ}
theorem st_forT (J : LJ) (at0 : At p F H) (h : Ev p tl σ F (.ref a)) (hx : SqT K F a xs) (h0 : J 0 σ p F)
    (hs : ∀ i x σ' p' F' H', xs[i]? = some x → Same F F' → At p' F' H' → J i σ' p' F' → g x σ' H' fun σ2 H2 => ts (tn F J (i + 1) D) σ2 H2) (hd : ∀ σ' p' F' H', Same F F' → At p' F' H' → J xs.length σ' p' F' → D.nx σ' H') : tFor (iTup K tl) g ts D σ H :=
  h F H (Same.refl _) at0 _ fun H1 a1 => ⟨a, rfl, ⟨xs, a1.t hx⟩, for_tup (xs := xs) (Mid F J) ⟨p, F, Same.refl _, a1, h0⟩ (fun i σ' H' _ ⟨p', F', s', a', _⟩ => a'.t (same_t s' hx)) (fun i x σ' H' hi ⟨p', F', s', a', j⟩ => hs i x σ' p' F' H' hi s' a' j) (fun σ' H' ⟨p', F', s', a', j⟩ => hd σ' p' F' H' s' a' j)⟩
theorem st_forL (J : LJ) (at0 : At p F H) (h : Ev p tl σ F (.ref a)) (hx : SqL K F a xs) (h0 : J 0 σ p F)
    (hs : ∀ i x σ' p' F' H', xs[i]? = some x → Same F F' → At p' F' H' → J i σ' p' F' → g x σ' H' fun σ2 H2 => ts (tn F J (i + 1) D) σ2 H2) (hd : ∀ σ' p' F' H', Same F F' → At p' F' H' → J xs.length σ' p' F' → D.nx σ' H') : tFor (iList K tl) g ts D σ H :=
  h F H (Same.refl _) at0 _ fun H1 a1 => ⟨a, rfl, ⟨xs, a1.l hx⟩, for_list (xs := xs) (Mid F J) ⟨p, F, Same.refl _, a1, h0⟩ (fun i σ' H' _ ⟨p', F', s', a', _⟩ => a'.l (s'.seq hx)) (fun i x σ' H' hi ⟨p', F', s', a', j⟩ => hs i x σ' p' F' H' hi s' a' j) (fun σ' H' ⟨p', F', s', a', j⟩ => hd σ' p' F' H' s' a' j)⟩
/-- over a list, a tuple that the header makes -/
theorem st_forTP {Pt : Addr → List V → Hp → Prop} (J : Addr → List V → LJ) (at0 : At p F H) (h : EvP p tl σ F (fun v F1 => ∃ a xs, v = .ref a ∧ SqT K F1 a xs ∧ Pt a xs F1)) (h0 : ∀ a xs F1, Same F F1 → Pt a xs F1 → J a xs 0 σ p F1)
    (hs : ∀ a xs F1 i x σ' p' F' H', Same F F1 → Pt a xs F1 → xs[i]? = some x → Same F1 F' → At p' F' H' → J a xs i σ' p' F' → g x σ' H' fun σ2 H2 => ts (tn F1 (J a xs) (i + 1) D) σ2 H2) (hd : ∀ a xs F1 σ' p' F' H', Same F F1 → Pt a xs F1 → Same F1 F' → At p' F' H' → J a xs xs.length σ' p' F' → D.nx σ' H') : tFor (iTup K tl) g ts D σ H :=
  h F H (Same.refl _) at0 _ fun v F1 H1 e1 a1 ⟨a, xs, ev, hx, pt⟩ => ⟨a, ev, ⟨xs, a1.t hx⟩, for_tup (xs := xs) (Mid F1 (J a xs)) ⟨p, F1, Same.refl _, a1, h0 a xs F1 e1 pt⟩ (fun i σ' H' _ ⟨p', F', s', a', _⟩ => a'.t (same_t s' hx)) (fun i x σ' H' hi ⟨p', F', s', a', j⟩ => hs a xs F1 i x σ' p' F' H' e1 pt hi s' a' j) (fun σ' H' ⟨p', F', s', a', j⟩ => hd a xs F1 σ' p' F' H' e1 pt s' a' j)⟩
theorem st_forLP {Pt : Addr → List V → Hp → Prop} (J : Addr → List V → LJ) (at0 : At p F H) (h : EvP p tl σ F (fun v F1 => ∃ a xs, v = .ref a ∧ SqL K F1 a xs ∧ Pt a xs F1)) (h0 : ∀ a xs F1, Same F F1 → Pt a xs F1 → J a xs 0 σ p F1)
    (hs : ∀ a xs F1 i x σ' p' F' H', Same F F1 → Pt a xs F1 → xs[i]? = some x → Same F1 F' → At p' F' H' → J a xs i σ' p' F' → g x σ' H' fun σ2 H2 => ts (tn F1 (J a xs) (i + 1) D) σ2 H2) (hd : ∀ a xs F1 σ' p' F' H', Same F F1 → Pt a xs F1 → Same F1 F' → At p' F' H' → J a xs xs.length σ' p' F' → D.nx σ' H') : tFor (iList K tl) g ts D σ H :=
  h F H (Same.refl _) at0 _ fun v F1 H1 e1 a1 ⟨a, xs, ev, hx, pt⟩ => ⟨a, ev, ⟨xs, a1.l hx⟩, for_list (xs := xs) (Mid F1 (J a xs)) ⟨p, F1, Same.refl _, a1, h0 a xs F1 e1 pt⟩ (fun i σ' H' _ ⟨p', F', s', a', _⟩ => a'.l (s'.seq hx)) (fun i x σ' H' hi ⟨p', F', s', a', j⟩ => hs a xs F1 i x σ' p' F' H' e1 pt hi s' a' j) (fun σ' H' ⟨p', F', s', a', j⟩ => hd a xs F1 σ' p' F' H' e1 pt s' a' j)⟩
/-- over range(n) -/
theorem st_forR1 {k : Nat} (J : LJ) (at0 : At p F H) (h : EvA p t σ F [.int (n : Int)]) (hn : n ≤ 1000000) (h0 : J 0 σ p F)
    (hs : ∀ i σ' p' F' H', i < n → Same F F' → At p' F' H' → J i σ' p' F' → ts (tn F J (i + 1) D) (σ'.set k (some (.int (i : Int)))) H') (hd : ∀ σ' p' F' H', Same F F' → At p' F' H' → J n σ' p' F' → D.nx σ' H') : tFor (iRng1 t) (gName k) ts D σ H :=
  h F H (Same.refl _) at0 _ fun H1 a1 => ⟨(n : Int), rfl, by omega, by omega, by
    have en : ((n : Int)).toNat = n := Int.toNat_natCast n
    rw [en]
    refine for_range (Mid F J) ⟨p, F, Same.refl _, a1, h0⟩ (fun i σ' H' hi ⟨p', F', s', a', j⟩ => ?_) (fun σ' H' ⟨p', F', s', a', j⟩ => hd σ' p' F' H' s' a' j)
    rw [Int.zero_add]
    exact hs i σ' p' F' H' hi s' a' j⟩
/-- .. n known as it comes -/
theorem st_forR1P {k : Nat} {Pn : Nat → Hp → Prop} (J : Nat → LJ) (at0 : At p F H) (h : EvAP p t σ F (fun vs F1 => ∃ n : Nat, vs = [.int (n : Int)] ∧ n ≤ 1000000 ∧ Pn n F1)) (h0 : ∀ n F1, Same F F1 → Pn n F1 → J n 0 σ p F1)
    (hs : ∀ n F1 i σ' p' F' H', i < n → Same F F1 → Pn n F1 → Same F1 F' → At p' F' H' → J n i σ' p' F' → ts (tn F1 (J n) (i + 1) D) (σ'.set k (some (.int (i : Int)))) H') (hd : ∀ n F1 σ' p' F' H', Same F F1 → Pn n F1 → Same F1 F' → At p' F' H' → J n n σ' p' F' → D.nx σ' H') : tFor (iRng1 t) (gName k) ts D σ H :=
  h F H (Same.refl _) at0 _ fun vs F1 H1 e1 a1 ⟨n, ev, hn, pn⟩ => ⟨(n : Int), ev, by omega, by omega, by
    have en : ((n : Int)).toNat = n := Int.toNat_natCast n
    rw [en]
    refine for_range (Mid F1 (J n)) ⟨p, F1, Same.refl _, a1, h0 n F1 e1 pn⟩ (fun i σ' H' hi ⟨p', F', s', a', j⟩ => ?_) (fun σ' H' ⟨p', F', s', a', j⟩ => hd n F1 σ' p' F' H' e1 pn s' a' j)
    rw [Int.zero_add]
    exact hs n F1 i σ' p' F' H' hi e1 pn s' a' j⟩
theorem st_forR2 {k lo hi : Nat} (J : LJ) (at0 : At p F H) (h : EvA p t σ F [.int (lo : Int), .int (hi : Int)]) (hn : lo ≤ 1000000 ∧ hi ≤ 1000000) (h0 : J 0 σ p F)
    (hs : ∀ i σ' p' F' H', lo + i < hi → Same F F' → At p' F' H' → J i σ' p' F' → ts (tn F J (i + 1) D) (σ'.set k (some (.int ((lo + i : Nat) : Int)))) H') (hd : ∀ σ' p' F' H', Same F F' → At p' F' H' → J (hi - lo) σ' p' F' → D.nx σ' H') : tFor (iRng2 t) (gName k) ts D σ H :=
  h F H (Same.refl _) at0 _ fun H1 a1 => ⟨(lo : Int), (hi : Int), rfl, by omega, by
    have en : ((hi : Int) - (lo : Int)).toNat = hi - lo := by omega
    rw [en]
    refine for_range (Mid F J) ⟨p, F, Same.refl _, a1, h0⟩ (fun i σ' H' hi ⟨p', F', s', a', j⟩ => ?_) (fun σ' H' ⟨p', F', s', a', j⟩ => hd σ' p' F' H' s' a' j)
    have ei : (lo : Int) + (i : Int) = ((lo + i : Nat) : Int) := by omega
    rw [ei]
    exact hs i σ' p' F' H' (by omega) s' a' j⟩
/-- enumerate(xs): a new pair each turn -/
theorem st_forE (J : LJ) (at0 : At p F H) (h : EvA p t σ F [.ref a]) (hx : SqL K F a xs ∨ SqT K F a xs) (h0 : J 0 σ p F)
    (hs : ∀ i x σ' p' F' H' T, xs[i]? = some x → Same F F' → At p' F' H' → J i σ' p' F' → H' T = none → g (.ref T) σ' (upd H' T (.tup [.int (i : Int), x])) fun σ2 H2 => ts (tn F J (i + 1) D) σ2 H2) (hd : ∀ σ' p' F' H', Same F F' → At p' F' H' → J xs.length σ' p' F' → D.nx σ' H') :
    tFor (iEnumA K t) g ts D σ H :=
  h F H (Same.refl _) at0 _ fun H1 a1 => ⟨a, rfl, by
    rcases hx with hx | hx
    · refine .inl ⟨⟨xs, a1.l hx⟩, for_gen (n := xs.length) (Mid F J) ⟨p, F, Same.refl _, a1, h0⟩ (fun i σ' H' hi ⟨p', F', s', a', _⟩ => ⟨xs, xs[i], a'.l (s'.seq hx), by simp [hi]⟩) (fun σ' H' ⟨p', F', s', a', _⟩ => ⟨xs, a'.l (s'.seq hx), Nat.le_refl _⟩) (fun i σ' H' y H2 hi ⟨p', F', s', a', j⟩ yl => ?_) (fun σ' H' ⟨p', F', s', a', j⟩ => hd σ' p' F' H' s' a' j)⟩
      obtain ⟨T, x, rfl, hT, rfl, f⟩ := yl
      exact hs i x σ' p' F' H' T (f xs (a'.l (s'.seq hx))) s' a' j hT
    · refine .inr ⟨⟨xs, a1.t hx⟩, for_gen (n := xs.length) (Mid F J) ⟨p, F, Same.refl _, a1, h0⟩ (fun i σ' H' hi ⟨p', F', s', a', _⟩ => ⟨xs, xs[i], a'.t (same_t s' hx), by simp [hi]⟩) (fun σ' H' ⟨p', F', s', a', _⟩ => ⟨xs, a'.t (same_t s' hx), rfl⟩) (fun i σ' H' y H2 hi ⟨p', F', s', a', j⟩ yl => ?_) (fun σ' H' ⟨p', F', s', a', j⟩ => hd σ' p' F' H' s' a' j)⟩
      obtain ⟨T, x, rfl, hT, rfl, f⟩ := yl
      exact hs i x σ' p' F' H' T (f xs (a'.t (same_t s' hx))) s' a' j hT⟩
/-- .. its two names -/
theorem st_forE2 {i1 i2 : Nat} (J : LJ) (at0 : At p F H) (h : EvA p t σ F [.ref a]) (hx : SqL K F a xs ∨ SqT K F a xs) (h0 : J 0 σ p F)
    (hs : ∀ i x σ' p' F' H', xs[i]? = some x → Same F F' → At p' F' H' → J i σ' p' F' → ts (tn F J (i + 1) D) ((σ'.set i1 (some (.int (i : Int)))).set i2 (some x)) H') (hd : ∀ σ' p' F' H', Same F F' → At p' F' H' → J xs.length σ' p' F' → D.nx σ' H') :
    tFor (iEnumA K t) (gTup K 2 (gCons (gName i1) (gCons (gName i2) gNil))) ts D σ H :=
  st_forE J at0 h hx h0 (fun i x σ' p' F' H' T hi s' a' j hT => gt2 (.of upd_same) (hs i x σ' p' F' _ hi s' (a'.new0 hT) j)) hd
/-- pairs that stand at as -/
def PairsAt (K : PySem.W.Frag) (F : Hp) (as : List Addr) (ps : List (V × V)) : Prop := as.length = ps.length ∧ ∀ (i : Nat) (b : Addr), as[i]? = some b → ∃ pr : V × V, ps[i]? = some pr ∧ SqT K F b [pr.1, pr.2]
theorem PairsAt.mono {as : List Addr} {ps : List (V × V)} (s : Same F F') (h : PairsAt K F as ps) : PairsAt K F' as ps := ⟨h.1, fun i b e => let ⟨pr, e1, e2⟩ := h.2 i b e; ⟨pr, e1, same_t s e2⟩⟩
/-- .. its name and pair -/
theorem st_forE12 {i1 i2 i3 : Nat} {ps : List (V × V)} {as : List Addr} (J : LJ) (at0 : At p F H) (h : EvA p t σ F [.ref a]) (hx : SqL K F a (as.map V.ref) ∨ SqT K F a (as.map V.ref)) (hp : PairsAt K F as ps) (h0 : J 0 σ p F)
    (hs : ∀ i pr σ' p' F' H', ps[i]? = some pr → Same F F' → At p' F' H' → J i σ' p' F' → ts (tn F J (i + 1) D) (((σ'.set i1 (some (.int (i : Int)))).set i2 (some pr.1)).set i3 (some pr.2)) H') (hd : ∀ σ' p' F' H', Same F F' → At p' F' H' → J ps.length σ' p' F' → D.nx σ' H') :
    tFor (iEnumA K t) (gTup K 2 (gCons (gName i1) (gCons (gTup K 2 (gCons (gName i2) (gCons (gName i3) gNil))) gNil))) ts D σ H := by
  refine st_forE J at0 h hx h0 (fun i x σ' p' F' H' T hi s' a' j hT => ?_) (fun σ' p' F' H' s' a' j => hd σ' p' F' H' s' a' (by rw [← hp.1]; simpa using j))
  rw [List.getElem?_map] at hi
  cases hb : as[i]? with
  | none => rw [hb] at hi; cases hi
  | some b =>
    rw [hb] at hi
    have ex : V.ref b = x := Option.some.inj hi
    subst ex
    obtain ⟨pr, e1, e2⟩ := hp.2 i b hb
    have a2 := a'.new0 (o := .tup [.int (i : Int), .ref b]) hT
    exact gt12 (.of upd_same) (a2.t (same_t s' e2)) (hs i pr σ' p' F' _ e1 s' a2 j)
/-- for x, y in pairs (a tuple, a list of pairs) -/
theorem st_forT2 {i2 i3 : Nat} {ps : List (V × V)} {as : List Addr} (J : LJ) (at0 : At p F H) (h : Ev p tl σ F (.ref a)) (hx : SqT K F a (as.map V.ref)) (hp : PairsAt K F as ps) (h0 : J 0 σ p F)
    (hs : ∀ i pr σ' p' F' H', ps[i]? = some pr → Same F F' → At p' F' H' → J i σ' p' F' → ts (tn F J (i + 1) D) ((σ'.set i2 (some pr.1)).set i3 (some pr.2)) H') (hd : ∀ σ' p' F' H', Same F F' → At p' F' H' → J ps.length σ' p' F' → D.nx σ' H') :
    tFor (iTup K tl) (gTup K 2 (gCons (gName i2) (gCons (gName i3) gNil))) ts D σ H := by
  refine st_forT J at0 h hx h0 (fun i x σ' p' F' H' hi s' a' j => ?_) (fun σ' p' F' H' s' a' j => hd σ' p' F' H' s' a' (by rw [← hp.1]; simpa using j))
  rw [List.getElem?_map] at hi
  cases hb : as[i]? with
  | none => rw [hb] at hi; cases hi
  | some b =>
    rw [hb] at hi
    have ex : V.ref b = x := Option.some.inj hi
    subst ex
    obtain ⟨pr, e1, e2⟩ := hp.2 i b hb
    exact gt2 (a'.t (same_t s' e2)) (hs i pr σ' p' F' _ e1 s' a' j)
theorem st_forL2 {i2 i3 : Nat} {ps : List (V × V)} {as : List Addr} (J : LJ) (at0 : At p F H) (h : Ev p tl σ F (.ref a)) (hx : SqL K F a (as.map V.ref)) (hp : PairsAt K F as ps) (h0 : J 0 σ p F)
    (hs : ∀ i pr σ' p' F' H', ps[i]? = some pr → Same F F' → At p' F' H' → J i σ' p' F' → ts (tn F J (i + 1) D) ((σ'.set i2 (some pr.1)).set i3 (some pr.2)) H') (hd : ∀ σ' p' F' H', Same F F' → At p' F' H' → J ps.length σ' p' F' → D.nx σ' H') :
    tFor (iList K tl) (gTup K 2 (gCons (gName i2) (gCons (gName i3) gNil))) ts D σ H := by
  refine st_forL J at0 h hx h0 (fun i x σ' p' F' H' hi s' a' j => ?_) (fun σ' p' F' H' s' a' j => hd σ' p' F' H' s' a' (by rw [← hp.1]; simpa using j))
  rw [List.getElem?_map] at hi
  cases hb : as[i]? with
  | none => rw [hb] at hi; cases hi
  | some b =>
    rw [hb] at hi
    have ex : V.ref b = x := Option.some.inj hi
    subst ex
    obtain ⟨pr, e1, e2⟩ := hp.2 i b hb
    exact gt2 (a'.t (same_t s' e2)) (hs i pr σ' p' F' _ e1 s' a' j)
/-! ### while -/
def MidW (F : Hp) (J : St → Wd → Hp → Prop) (σ : St) (H : Hp) : Prop := ∃ p F', Same F F' ∧ At p F' H ∧ J σ p F'
/-- J with a measure m -/
theorem st_while (J : Nat → St → Wd → Hp → Prop) (m0 : Nat) (at0 : At p F H) (h0 : J m0 σ p F)
    (hs : ∀ m σ' p' F' H', Same F F' → At p' F' H' → J m σ' p' F' → ∃ b, EvT p' tt σ' F' b ∧ (b = true → ∀ H1, At p' F' H1 → ts { D with nx := fun σ2 H2 => ∃ m', m' < m ∧ MidW F (J m') σ2 H2, ct := fun σ2 H2 => ∃ m', m' < m ∧ MidW F (J m') σ2 H2, bk := D.nx } σ' H1) ∧ (b = false → ∀ H1, At p' F' H1 → D.nx σ' H1)) : tWhile tt ts D σ H := by
  refine ⟨fun m σ H => MidW F (J m) σ H, ⟨m0, p, F, Same.refl _, at0, h0⟩, ?_⟩
  rintro m σ1 H1 ⟨p', F', s', a', j⟩
  obtain ⟨b, ht, h1, h2⟩ := hs m σ1 p' F' H1 s' a' j
  refine ht F' H1 (Same.refl _) a' _ fun H2 a2 => ?_
  cases b with
  | true => exact ⟨_, fun _ _ w => w, h1 rfl H2 a2⟩
  | false => exact h2 rfl H2 a2
/-! ### comprehensions -/
theorem lc_gen {It' : It} {n : Nat} {g : TG} {tt : TT} {te : TE} {vs : List Nat} {σ : St} {H1 : Hp} {D : Addr} {Qd : Hp → Prop} (Pv : Nat → Hp → Prop) (h0 : Pv 0 (upd H1 D (.lst []))) (hgo : ∀ i H, i < n → Pv i H → It'.go i H) (hst : ∀ H, Pv n H → It'.stop n H)
    (hs : ∀ i H x H', i < n → Pv i H → It'.yld i H x H' → g x (wipe σ vs) H' fun σ2 H2 => wipe σ2 vs = wipe σ vs ∧ tt σ2 H2 fun b H3 =>
      if b = true then te σ2 H3 fun y H4 => ∃ acc, H4 D = some (.lst acc) ∧ acc.length < sizeLine ∧ Pv (i + 1) (upd H4 D (.lst (acc ++ [y]))) else Pv (i + 1) H3) (hd : ∀ H, Pv n H → Qd H) :
    ∃ W : Nat → Nat → Hp → Prop, (∃ m, W 0 m (upd H1 D (.lst []))) ∧ ∀ i m H, W i m H →
      (It'.stop i H ∧ Qd H) ∨ (It'.go i H ∧ ∃ Nx : Hp → Prop, (∀ H', Nx H' → ∃ m', m' < m ∧ W (i + 1) m' H') ∧ ∀ x H', It'.yld i H x H' → g x (wipe σ vs) H' fun σ2 H2 => wipe σ2 vs = wipe σ vs ∧ tt σ2 H2 fun b H3 =>
        if b = true then te σ2 H3 fun y H4 => ∃ acc, H4 D = some (.lst acc) ∧ acc.length < sizeLine ∧ Nx (upd H4 D (.lst (acc ++ [y]))) else Nx H3) := by
  refine ⟨fun i m H => m = n - i ∧ i ≤ n ∧ Pv i H, ⟨n, by simp, Nat.zero_le _, h0⟩, ?_⟩
  rintro i m H ⟨rfl, hi, pv⟩
  by_cases hlt : i < n
  · exact .inr ⟨hgo i H hlt pv, Pv (i + 1), fun H' p' => ⟨n - (i + 1), by omega, rfl, hlt, p'⟩, fun x H' y => hs i H x H' hlt pv y⟩
  · have e : i = n := by omega
    subst e
    exact .inl ⟨hst H pv, hd H pv⟩
/-- what of the list so far: the turn, the items, the known heap -/
abbrev LI := Nat → List V → Hp → Prop
/-- what a comprehension leaves -/
def LcP (F : Hp) (R : List V → Hp → Prop) (v : V) (F2 : Hp) : Prop := ∃ q xs F1, v = .ref q ∧ F q = none ∧ F1 q = none ∧ F2 = upd F1 q (.lst xs) ∧ Same F F1 ∧ R xs F1
/-- one turn: the test, the element, in any world -/
def LcT (tt : TT) (te : TE) (σ2 : St) (p : Wd) (F' : Hp) (J' : List V → Hp → Prop) (acc : List V) : Prop := ∃ Pt : Bool → Prop, EvTP p tt σ2 F' Pt ∧ (Pt true → EvP p te σ2 F' (fun y F2 => J' (acc ++ [y]) F2)) ∧ (Pt false → J' acc F')
theorem LcT.all {σ2 : St} {J' : List V → Hp → Prop} {acc : List V} (h : EvP p te σ2 F (fun y F2 => J' (acc ++ [y]) F2)) : LcT tYes te σ2 p F J' acc := ⟨_, et_yes, fun _ => h, fun e => absurd e Bool.false_ne_true⟩
def LcI (p : Wd) (F : Hp) (D : Addr) (J : LI) (i : Nat) (H : Hp) : Prop := ∃ acc F', Same F F' ∧ At (.own p D (.lst acc)) F' H ∧ acc.length ≤ i ∧ J i acc F'
theorem lc_turn {σ2 : St} {J : LI} {i : Nat} {acc : List V} {Dl : Addr} (hz : i < 100000) (s : Same F F') (a : At (.own p Dl (.lst acc)) F' H) (hl : acc.length ≤ i) (h : LcT tt te σ2 (.own p Dl (.lst acc)) F' (J (i + 1)) acc) :
    tt σ2 H fun b H3 => if b = true then te σ2 H3 fun y H4 => ∃ acc, H4 Dl = some (.lst acc) ∧ acc.length < sizeLine ∧ LcI p F Dl J (i + 1) (upd H4 Dl (.lst (acc ++ [y]))) else LcI p F Dl J (i + 1) H3 := by
  obtain ⟨Pt, ht, he, hn⟩ := h
  refine ht F' H (Same.refl _) a _ fun b H3 a3 pb => ?_
  cases b with
  | true =>
    show te σ2 H3 _
    refine he pb F' H3 (Same.refl _) a3 _ fun y F4 H4 e4 a4 po => ⟨acc, a4.mine_at, Nat.lt_of_le_of_lt hl (Nat.lt_of_lt_of_le hz (by decide)), acc ++ [y], F4, s.trans e4, a4.put, by rw [List.length_append]; exact Nat.succ_le_succ hl, po⟩
  | false =>
    show LcI p F Dl J (i + 1) H3
    exact ⟨acc, F', s, a3, Nat.le_succ_of_le hl, hn pb⟩
theorem lc_end {J : LI} {Dl : Addr} {Q : VK} (s0 : Same F F1) (hD : F1 Dl = none) (h : LcI p F1 Dl J n H) (k : ∀ v F2 H2, Same F F2 → At p F2 H2 → LcP F (fun xs F3 => xs.length ≤ n ∧ J n xs F3) v F2 → Q v H2) : Q (.ref Dl) H := by
  obtain ⟨acc, F', s, a, hl, j⟩ := h
  exact k _ _ H ((s0.trans s).trans a.give_same) a.give ⟨Dl, acc, F', rfl, s0.free hD, a.own_free, rfl, s0.trans s, hl, j⟩
/-- [.. for name in range(n)] -/
theorem ev_lcR {j : Nat} {vs : List Nat} (J : LI) (h : EvA p t σ F [.int (n : Int)]) (hn : n ≤ 40000) (hw : ∀ x, wipe ((wipe σ vs).set j (some x)) vs = wipe σ vs) (h0 : ∀ F1, Same F F1 → J 0 [] F1)
    (hs : ∀ i acc F' p', i < n → Same F F' → J i acc F' → acc.length ≤ i → (∃ D, p' = .own p D (.lst acc)) → LcT tt te ((wipe σ vs).set j (some (.int (i : Int)))) p' F' (J (i + 1)) acc) : EvP p (tLc (iRng1 t) (gName j) tt te vs) σ F (LcP F (fun xs F3 => xs.length ≤ n ∧ J n xs F3)) := fun F1 H e a Q k =>
  h F1 H e a _ fun H1 a1 => ⟨(n : Int), rfl, by omega, by omega, fun Dl hD => by
    have en : ((n : Int)).toNat = n := Int.toNat_natCast n
    rw [en]
    refine lc_range (LcI p F1 Dl J) ⟨[], F1, Same.refl _, a1.mine hD, Nat.le_refl _, h0 F1 e⟩ (fun i H' hi ⟨acc, F', s', a', hl, j'⟩ => ?_) (fun H' w => lc_end (F := F1) (Same.refl _) (a1.free hD) w fun v F2 H2 e2 a2 po => k v F2 H2 e2 a2 ?_)
    · rw [Int.zero_add]
      exact ⟨hw _, lc_turn (by omega) s' a' hl (hs i acc F' _ hi (e.trans s') j' hl ⟨Dl, rfl⟩)⟩
    · obtain ⟨q, xs, F3, e1, e2, e3, e4, e5, e6⟩ := po
      exact ⟨q, xs, F3, e1, e.free e2, e3, e4, e.trans e5, e6⟩⟩
/-- .. over a tuple, a list that is known -/
theorem ev_lcT {j : Nat} {vs : List Nat} (J : LI) (h : Ev p tl σ F (.ref a)) (hx : SqT K F a xs) (hz : xs.length ≤ 40000) (hw : ∀ x, wipe ((wipe σ vs).set j (some x)) vs = wipe σ vs) (h0 : ∀ F1, Same F F1 → J 0 [] F1)
    (hs : ∀ i x acc F' p', xs[i]? = some x → Same F F' → J i acc F' → acc.length ≤ i → (∃ D, p' = .own p D (.lst acc)) → LcT tt te ((wipe σ vs).set j (some x)) p' F' (J (i + 1)) acc) : EvP p (tLc (iTup K tl) (gName j) tt te vs) σ F (LcP F (fun ys F3 => ys.length ≤ xs.length ∧ J xs.length ys F3)) := fun F1 H e at0 Q k =>
  h F1 H e at0 _ fun H1 a1 => ⟨a, rfl, ⟨xs, a1.t (same_t e hx)⟩, fun Dl hD => by
    refine lc_tup (xs := xs) (LcI p F1 Dl J) ⟨[], F1, Same.refl _, a1.mine hD, Nat.le_refl _, h0 F1 e⟩ (fun i H' _ ⟨acc, F', s', a', _⟩ => a'.t (same_t (e.trans s') hx)) (fun i x H' hi ⟨acc, F', s', a', hl, j'⟩ => ?_) (fun H' w => lc_end (F := F1) (Same.refl _) (a1.free hD) w fun v F2 H2 e2 a2 po => k v F2 H2 e2 a2 ?_)
    · have hi2 := (List.getElem?_eq_some_iff.mp hi).1
      exact ⟨hw _, lc_turn (by omega) s' a' hl (hs i x acc F' _ hi (e.trans s') j' hl ⟨Dl, rfl⟩)⟩
    · obtain ⟨q, xs, F3, e1, e2, e3, e4, e5, e6⟩ := po
      exact ⟨q, xs, F3, e1, e.free e2, e3, e4, e.trans e5, e6⟩⟩
theorem ev_lcL {j : Nat} {vs : List Nat} (J : LI) (h : Ev p tl σ F (.ref a)) (hx : SqL K F a xs) (hz : xs.length ≤ 40000) (hw : ∀ x, wipe ((wipe σ vs).set j (some x)) vs = wipe σ vs) (h0 : ∀ F1, Same F F1 → J 0 [] F1)
    (hs : ∀ i x acc F' p', xs[i]? = some x → Same F F' → J i acc F' → acc.length ≤ i → (∃ D, p' = .own p D (.lst acc)) → LcT tt te ((wipe σ vs).set j (some x)) p' F' (J (i + 1)) acc) : EvP p (tLc (iList K tl) (gName j) tt te vs) σ F (LcP F (fun ys F3 => ys.length ≤ xs.length ∧ J xs.length ys F3)) := fun F1 H e at0 Q k =>
  h F1 H e at0 _ fun H1 a1 => ⟨a, rfl, ⟨xs, a1.l (e.seq hx)⟩, fun Dl hD => by
    refine lc_list (xs := xs) (LcI p F1 Dl J) ⟨[], F1, Same.refl _, a1.mine hD, Nat.le_refl _, h0 F1 e⟩ (fun i H' _ ⟨acc, F', s', a', _⟩ => a'.l ((e.trans s').seq hx)) (fun i x H' hi ⟨acc, F', s', a', hl, j'⟩ => ?_) (fun H' w => lc_end (F := F1) (Same.refl _) (a1.free hD) w fun v F2 H2 e2 a2 po => k v F2 H2 e2 a2 ?_)
    · have hi2 := (List.getElem?_eq_some_iff.mp hi).1
      exact ⟨hw _, lc_turn (by omega) s' a' hl (hs i x acc F' _ hi (e.trans s') j' hl ⟨Dl, rfl⟩)⟩
    · obtain ⟨q, xs, F3, e1, e2, e3, e4, e5, e6⟩ := po
      exact ⟨q, xs, F3, e1, e.free e2, e3, e4, e.trans e5, e6⟩⟩
/-- .. over what the header makes -/
theorem ev_lcTP {j : Nat} {vs : List Nat} {Pt : List V → Hp → Prop} (J : List V → LI) (h : EvP p tl σ F (fun v F1 => ∃ a xs, v = .ref a ∧ SqT K F1 a xs ∧ xs.length ≤ 40000 ∧ Pt xs F1)) (hw : ∀ x, wipe ((wipe σ vs).set j (some x)) vs = wipe σ vs) (h0 : ∀ xs F1, Same F F1 → Pt xs F1 → J xs 0 [] F1)
    (hs : ∀ xs F1 i x acc F' p', Same F F1 → Pt xs F1 → xs[i]? = some x → Same F1 F' → J xs i acc F' → acc.length ≤ i → (∃ D, p' = .own p D (.lst acc)) → LcT tt te ((wipe σ vs).set j (some x)) p' F' (J xs (i + 1)) acc) :
    EvP p (tLc (iTup K tl) (gName j) tt te vs) σ F (fun v F2 => ∃ xs F1, Same F F1 ∧ Pt xs F1 ∧ LcP F1 (fun ys F3 => ys.length ≤ xs.length ∧ J xs xs.length ys F3) v F2) := fun F0 H e at0 Q k =>
  h F0 H e at0 _ fun v F1 H1 e1 a1 ⟨a, xs, ev, hx, hz, pt⟩ => ⟨a, ev, ⟨xs, a1.t hx⟩, fun Dl hD => by
    refine lc_tup (xs := xs) (LcI p F1 Dl (J xs)) ⟨[], F1, Same.refl _, a1.mine hD, Nat.le_refl _, h0 xs F1 (e.trans e1) pt⟩ (fun i H' _ ⟨acc, F', s', a', _⟩ => a'.t (same_t s' hx)) (fun i x H' hi ⟨acc, F', s', a', hl, j'⟩ => ?_) (fun H' w => lc_end (F := F1) (Same.refl _) (a1.free hD) w fun v F2 H2 e2 a2 po => k v F2 H2 (e1.trans e2) a2 ⟨xs, F1, e.trans e1, pt, po⟩)
    have hi2 := (List.getElem?_eq_some_iff.mp hi).1
    exact ⟨hw _, lc_turn (by omega) s' a' hl (hs xs F1 i x acc F' _ (e.trans e1) pt hi s' j' hl ⟨Dl, rfl⟩)⟩⟩
theorem ev_lcLP {j : Nat} {vs : List Nat} {Pt : List V → Hp → Prop} (J : List V → LI) (h : EvP p tl σ F (fun v F1 => ∃ a xs, v = .ref a ∧ SqL K F1 a xs ∧ xs.length ≤ 40000 ∧ Pt xs F1)) (hw : ∀ x, wipe ((wipe σ vs).set j (some x)) vs = wipe σ vs) (h0 : ∀ xs F1, Same F F1 → Pt xs F1 → J xs 0 [] F1)
    (hs : ∀ xs F1 i x acc F' p', Same F F1 → Pt xs F1 → xs[i]? = some x → Same F1 F' → J xs i acc F' → acc.length ≤ i → (∃ D, p' = .own p D (.lst acc)) → LcT tt te ((wipe σ vs).set j (some x)) p' F' (J xs (i + 1)) acc) :
    EvP p (tLc (iList K tl) (gName j) tt te vs) σ F (fun v F2 => ∃ xs F1, Same F F1 ∧ Pt xs F1 ∧ LcP F1 (fun ys F3 => ys.length ≤ xs.length ∧ J xs xs.length ys F3) v F2) := fun F0 H e at0 Q k =>
  h F0 H e at0 _ fun v F1 H1 e1 a1 ⟨a, xs, ev, hx, hz, pt⟩ => ⟨a, ev, ⟨xs, a1.l hx⟩, fun Dl hD => by
    refine lc_list (xs := xs) (LcI p F1 Dl (J xs)) ⟨[], F1, Same.refl _, a1.mine hD, Nat.le_refl _, h0 xs F1 (e.trans e1) pt⟩ (fun i H' _ ⟨acc, F', s', a', _⟩ => a'.l (s'.seq hx)) (fun i x H' hi ⟨acc, F', s', a', hl, j'⟩ => ?_) (fun H' w => lc_end (F := F1) (Same.refl _) (a1.free hD) w fun v F2 H2 e2 a2 po => k v F2 H2 (e1.trans e2) a2 ⟨xs, F1, e.trans e1, pt, po⟩)
    have hi2 := (List.getElem?_eq_some_iff.mp hi).1
    exact ⟨hw _, lc_turn (by omega) s' a' hl (hs xs F1 i x acc F' _ (e.trans e1) pt hi s' j' hl ⟨Dl, rfl⟩)⟩⟩
/-- .. for x, y in a tuple, a list of pairs -/
theorem ev_lcT2 {j1 j2 : Nat} {vs : List Nat} {ps : List (V × V)} {as : List Addr} (J : LI) (h : Ev p tl σ F (.ref a)) (hx : SqT K F a (as.map V.ref)) (hp : PairsAt K F as ps) (hz : as.length ≤ 40000) (hw : ∀ x y, wipe (((wipe σ vs).set j1 (some x)).set j2 (some y)) vs = wipe σ vs) (h0 : ∀ F1, Same F F1 → J 0 [] F1)
    (hs : ∀ i pr acc F' p', ps[i]? = some pr → Same F F' → J i acc F' → acc.length ≤ i → (∃ D, p' = .own p D (.lst acc)) → LcT tt te (((wipe σ vs).set j1 (some pr.1)).set j2 (some pr.2)) p' F' (J (i + 1)) acc) :
    EvP p (tLc (iTup K tl) (gTup K 2 (gCons (gName j1) (gCons (gName j2) gNil))) tt te vs) σ F (LcP F (fun ys F3 => ys.length ≤ ps.length ∧ J ps.length ys F3)) := fun F1 H e at0 Q k =>
  h F1 H e at0 _ fun H1 a1 => ⟨a, rfl, ⟨_, a1.t (same_t e hx)⟩, fun Dl hD => by
    refine lc_tup (xs := as.map V.ref) (LcI p F1 Dl J) ⟨[], F1, Same.refl _, a1.mine hD, Nat.le_refl _, h0 F1 e⟩ (fun i H' _ ⟨acc, F', s', a', _⟩ => a'.t (same_t (e.trans s') hx)) (fun i x H' hi ⟨acc, F', s', a', hl, j'⟩ => ?_) (fun H' w => ?_)
    · rw [List.getElem?_map] at hi
      cases hb : as[i]? with
      | none => rw [hb] at hi; cases hi
      | some b =>
        rw [hb] at hi
        have ex : V.ref b = x := Option.some.inj hi
        subst ex
        have hi2 := (List.getElem?_eq_some_iff.mp hb).1
        obtain ⟨pr, e1, e2⟩ := hp.2 i b hb
        exact gt2 (a'.t (same_t (e.trans s') e2)) ⟨hw _ _, lc_turn (by omega) s' a' hl (hs i pr acc F' _ e1 (e.trans s') j' hl ⟨Dl, rfl⟩)⟩
    · rw [List.length_map, hp.1] at w
      exact lc_end (F := F1) (Same.refl _) (a1.free hD) w fun v F2 H2 e2 a2 ⟨q, xs, F3, e1, e2', e3, e4, e5, e6⟩ => k v F2 H2 e2 a2 ⟨q, xs, F3, e1, e.free e2', e3, e4, e.trans e5, e6⟩⟩
theorem ev_lcL2 {j1 j2 : Nat} {vs : List Nat} {ps : List (V × V)} {as : List Addr} (J : LI) (h : Ev p tl σ F (.ref a)) (hx : SqL K F a (as.map V.ref)) (hp : PairsAt K F as ps) (hz : as.length ≤ 40000) (hw : ∀ x y, wipe (((wipe σ vs).set j1 (some x)).set j2 (some y)) vs = wipe σ vs) (h0 : ∀ F1, Same F F1 → J 0 [] F1)
    (hs : ∀ i pr acc F' p', ps[i]? = some pr → Same F F' → J i acc F' → acc.length ≤ i → (∃ D, p' = .own p D (.lst acc)) → LcT tt te (((wipe σ vs).set j1 (some pr.1)).set j2 (some pr.2)) p' F' (J (i + 1)) acc) :
    EvP p (tLc (iList K tl) (gTup K 2 (gCons (gName j1) (gCons (gName j2) gNil))) tt te vs) σ F (LcP F (fun ys F3 => ys.length ≤ ps.length ∧ J ps.length ys F3)) := fun F1 H e at0 Q k =>
  h F1 H e at0 _ fun H1 a1 => ⟨a, rfl, ⟨_, a1.l (e.seq hx)⟩, fun Dl hD => by
    refine lc_list (xs := as.map V.ref) (LcI p F1 Dl J) ⟨[], F1, Same.refl _, a1.mine hD, Nat.le_refl _, h0 F1 e⟩ (fun i H' _ ⟨acc, F', s', a', _⟩ => a'.l ((e.trans s').seq hx)) (fun i x H' hi ⟨acc, F', s', a', hl, j'⟩ => ?_) (fun H' w => ?_)
    · rw [List.getElem?_map] at hi
      cases hb : as[i]? with
      | none => rw [hb] at hi; cases hi
      | some b =>
        rw [hb] at hi
        have ex : V.ref b = x := Option.some.inj hi
        subst ex
        have hi2 := (List.getElem?_eq_some_iff.mp hb).1
        obtain ⟨pr, e1, e2⟩ := hp.2 i b hb
        exact gt2 (a'.t (same_t (e.trans s') e2)) ⟨hw _ _, lc_turn (by omega) s' a' hl (hs i pr acc F' _ e1 (e.trans s') j' hl ⟨Dl, rfl⟩)⟩
    · rw [List.length_map, hp.1] at w
      exact lc_end (F := F1) (Same.refl _) (a1.free hD) w fun v F2 H2 e2 a2 ⟨q, xs, F3, e1, e2', e3, e4, e5, e6⟩ => k v F2 H2 e2 a2 ⟨q, xs, F3, e1, e.free e2', e3, e4, e.trans e5, e6⟩⟩
end
end PA
/-! P1b: set(xs) of a list of ints. -/
namespace PySem.W
open PySem PyProof.Rows L2
abbrev sObj (w : World) : Obj := { cls := .type "set", dict := none, data := .set #[] 0 (.fresh 0 0 (!w.params.followText "set-order")) }
abbrev iObj (l : Addr) : Obj := { cls := .type "list_iterator", data := .fields #[.ref l, .int 0 0] }
section
variable {P : Program} {w : World} {A : Around} {E : Value → Shared → Prop} {s : Shared}
theorem set_of_list {l : Addr} {items : Array Value} (ns : List Int) {Q : Value → Shared → Prop} (hh : A.handled = none) (hl : s.heap.IsList l items) (hit : IntsAre items.toList ns) (hb : ns.length + 1 < scanBound)
    (h : ∀ (h' : Heap) (tk c : Nat), SetR w h' s.heap.objs.size (fun j => decide (j ∈ ns)) c → c ≤ ns.length → (∀ b o, s.heap.get? b = some o → h'.get? b = some o) → Q (.ref s.heap.objs.size) { s with heap := h', toks := tk }) :
    wpAny (model P w) A (call (.type "set") [.ref l]) Q E s := by
  have hsz : items.size = ns.length := by
    have q := hit.length
    rw [Array.length_toList] at q
    exact q
  obtain ⟨c, tl, hmro⟩ := F.called_set.mro
  have hmade := F.called_set.made
  have hsub := F.called_set.sub
  refine wpAny_call (codeAny_of_tree ?_)
  show wpAny _ _ (callAny (.type "set") _) _ _ _
  refine wpAny_pure ⟨Code.quiet_builtin _ (by decide +kernel), codeAny_builtin F.entry_type_call ?_⟩
  rw [Around.under_plain (weight_type_call_type "set" [.ref l] []) rfl]
  have h1 := F.called_set.notType
  have h2 := F.called_set.canCreate
  have hct := F.typeCall_set_1 (.ref l)
  repeat (any_goals (first | assumption | wp_step))
  refine codeAny_mono (code_set_led1 (.ref l) (E := E) (Q₁ := fun obj s₁ => obj = .ref s.heap.objs.size ∧ s₁ = { s with heap := s.heap.push (sObj w) }) ⟨rfl, rfl⟩) fun r s₁ hr => ?_
  cases r with
  | error e => exact hr
  | ok fl =>
    cases fl with
    | ret obj =>
      obtain ⟨rfl, rfl⟩ := hr
      have hS : (s.heap.push (sObj w)).get? s.heap.objs.size = some (sObj w) := Heap.get?_push_size _ rfl
      have hT : Shared.TypeIs { s with heap := s.heap.push (sObj w) } (.ref s.heap.objs.size) "set" := ⟨_, hS, rfl⟩
      have hli := F.called_set.init.lookup
      have hbi := F.called_set.init.bind (.ref s.heap.objs.size)
      repeat (any_goals (first | assumption | wp_step))
      refine codeAny_mono (codeAny_call_builtin (R := wants (fun r s₂ => r = .none ∧ ∃ h' tk c, s₂ = { s with heap := h', toks := tk } ∧ SetR w h' s.heap.objs.size (fun j => decide (j ∈ ns)) c ∧ c ≤ ns.length ∧
          (∀ b o, s.heap.get? b = some o → h'.get? b = some o)) E) F.called_set.init.plain F.entry_set_init (check_set_init_1 hT ?_)) fun r₂ s₂ hr₂ => ?_
      · obtain ⟨ol, hol, hcl, nl, hdl⟩ := hl
        obtain ⟨ocls, odict, odata, oslots⟩ := ol
        simp only at hcl hdl
        subst hcl; subst hdl
        have hol' : (s.heap.push (sObj w)).get? l = some { cls := .type "list", dict := odict, data := .seq items nl, slots := oslots } := Heap.get?_push_of_some _ hol
        have hlS : l < s.heap.objs.size := Heap.lt_size hol
        have a1 := F.sub_list_set
        have a2 := F.sub_list_frozenset
        have a3 : (Value.type "list" == Value.type "dict") = false := by decide
        have hl1 : (s.heap.push (sObj w)).IsList l items := ⟨_, hol', rfl, nl, rfl⟩
        unfold Builtin.«set.__init__» noKeywords Builtin.Frozenset.updateFrom
        generalize hPI : pyIter = PI
        wp_walk
        subst hPI
        refine wpAny_pyIter_list hl1 ?_
        refine wpAny_bind (wpAny_runValue ?_)
        have hh3 : A.in1.in1.in1.handled = none := by simp [hh]
        have hz1 : (s.heap.push (sObj w)).objs.size = s.heap.objs.size + 1 := Heap.size_push ..
        have hneI : l ≠ (s.heap.push (sObj w)).objs.size := by
          rw [hz1]
          exact Nat.ne_of_lt (Nat.lt_succ_of_lt hlS)
        have hSf : s.heap.objs.size ∉ [(s.heap.push (sObj w)).objs.size, l] := by
          rw [hz1]
          simp only [List.mem_cons, List.not_mem_nil, or_false, not_or]
          exact ⟨Nat.ne_of_lt (Nat.lt_succ_self _), Nat.ne_of_gt hlS⟩
        have hval : ∀ (i : Nat) (v : Value), items[i]? = some v → ∃ k t, ns[i]? = some k ∧ v = .int k t := fun i v hv => by
          have hi : i < ns.length := by rw [← hsz]; exact (Array.getElem?_eq_some_iff.mp hv).1
          obtain ⟨t, e⟩ := PyProof.Rows.IntsAre.int_at hit i v (by rw [Array.getElem?_toList]; exact hv)
          refine ⟨ns[i], t, List.getElem?_eq_getElem hi, ?_⟩
          rw [e, List.getD_eq_getElem?_getD, List.getElem?_eq_getElem hi] <;> rfl
        refine set_update_ints ((Walks.list hh3 _ l hneI items).toS) s.heap.objs.size
          hSf ns hsz hb hval (items.size - 0) 0 _ (by omega) (Nat.zero_le _)
          ⟨⟨_, Heap.get?_push_size _ rfl, rfl, rfl⟩, (hl1.push _)⟩ ?hS0 ?hR
        case hS0 =>
          have hget : ((s.heap.push (sObj w)).push (iObj l)).get? s.heap.objs.size = some (sObj w) := Heap.get?_push_of_some _ hS
          exact ⟨0, Nat.le_refl 0, setR_new_at hget⟩
        case hR =>
          intro s' c' hm hc' hS'
          obtain ⟨h', g2, d', tk', os'⟩ := s'
          have eg : g2 = s.gens := hm.gens
          have ed : d' = s.drawn := hm.drawn
          have eo : os' = s.os := hm.os
          subst eg; subst ed; subst eo
          show wpAny _ _ _ _ _ _
          refine wpAny_pure ?_
          show wpAny _ _ (ret Value.none) _ _ _
          rw [hsz] at hc'
          refine wpAny_pure ⟨rfl, h', tk', c', rfl, hS', hc', fun b o e => ?_⟩
          have hb0 : b < s.heap.objs.size := Heap.lt_size e
          have hb2 : b ≠ (s.heap.push (sObj w)).objs.size := by
            rw [hz1]
            exact Nat.ne_of_lt (Nat.lt_succ_of_lt hb0)
          exact hm.heap b o (by simp only [List.mem_cons, List.not_mem_nil, or_false, not_or]; exact ⟨Nat.ne_of_lt hb0, hb2⟩) (Heap.get?_push_of_some _ (Heap.get?_push_of_some _ e))
      · cases r₂ with
        | error e => exact hr₂
        | ok fl₂ =>
          cases fl₂ with
          | ret r =>
            obtain ⟨rfl, h', tk, c', rfl, hS', hc', hk'⟩ := hr₂
            repeat (any_goals (first | assumption | wp_step))
            exact h _ _ _ hS' hc' hk'
          | _ => exact hr₂.elim
    | _ => exact hr.elim
end
end PySem.W
namespace PA
open PySem PyProof.Rows L2
section
variable {X : Cx}
/-- set(xs), xs a list of ints -/
def rSetL1 (K : PySem.W.Frag) (w : World) : List V → Hp → VK → Prop := fun xs H Q => ∃ (l : Addr) (ns : List Int), xs = [V.ref l] ∧ SqL K H l (ns.map V.int) ∧ ns.length ≤ 1000 ∧
  ∀ a n, H a = none → n ≤ ns.length → Q (.ref a) (upd H a (SetO w a (fun j => decide (j ∈ ns)) n))
theorem ints_of : ∀ {ns : List Int} {us : List Value}, Vals (ns.map V.int) us → IntsAre us ns
  | [], _, .nil => .nil
  | n :: ns, _, .cons ⟨t, e⟩ r => by
    subst e
    exact .cons n t (ints_of r)
theorem cr_setL1 (hc : X.calm = true) : CallR X (.type "set") (rSetL1 X.K X.w) := by
  intro pins s σ H xs us Q I r h
  obtain ⟨l, ns, rfl, hl, hn, q⟩ := h
  obtain ⟨u, rfl, r1⟩ := vals1 r
  cases (show u = Value.ref l from r1)
  obtain ⟨its, rv, p, hz⟩ := I.list hl
  refine PySem.W.set_of_list ns (I.ok.hd hc) p.isList (ints_of rv) (Nat.lt_of_le_of_lt (Nat.succ_le_succ hn) (by decide)) fun h' tk c R hcn hk => ?_
  have hfr := I.hok.fresh (Nat.le_refl _)
  exact ⟨.ref _, _, I.laid (t' := tk) hk (Nat.le_refl _) (setO_new R), rfl, q _ c hfr hcn⟩
end
end PA
/-! P1c: repr of a list or a tuple of small ints, nothing else being shown; t * n for any n from 1 on. -/
namespace PA
open PySem PyProof.Rows L2
theorem reads_ints {h : Heap} : ∀ {ns : List Int} {us : List Value}, Vals (ns.map V.int) us → ReadsAll h us (ns.map PyData.int) []
  | [], _, .nil => .nil
  | n :: ns, _, .cons ⟨t, e⟩ r => by
    subst e
    exact ReadsAll.cons (as := []) (bs := []) (.int n t) (reads_ints r)
theorem wt_ints : ∀ ns : List Int, (∀ n ∈ ns, n.natAbs < 1000000) → PyData.weightAll (ns.map PyData.int) ≤ 21 * ns.length
  | [], _ => Nat.zero_le _
  | n :: ns, h => by
    have h1 := wt_ints ns fun m hm => h m (List.mem_cons_of_mem _ hm)
    have h2 : PyData.weight (.int n) ≤ 20 := by
      have h0 := h n List.mem_cons_self
      show (if n == 0 then 0 else n.natAbs.log2 + 1) ≤ 20
      split
      · exact Nat.zero_le _
      · rename_i hz
        have nz : n.natAbs ≠ 0 := by
          intro e
          have : n = 0 := by omega
          rw [this] at hz
          exact hz rfl
        have := (Nat.log2_lt (n := n.natAbs) (k := 20) nz).mpr (Nat.lt_trans h0 (by decide))
        omega
    show PyData.weight (.int n) + 1 + PyData.weightAll (ns.map PyData.int) ≤ 21 * (ns.length + 1)
    omega
theorem can_ints : ∀ ns : List Int, PyData.canLayAll0 (ns.map PyData.int) = true
  | [] => rfl
  | n :: ns => by
    show (true && PyData.canLayAll0 (ns.map PyData.int)) = true
    rw [can_ints ns] <;> rfl
theorem dep_ints : ∀ ns : List Int, PyData.depthAll (ns.map PyData.int) = 0
  | [] => rfl
  | n :: ns => by
    show max 0 (PyData.depthAll (ns.map PyData.int)) = 0
    rw [dep_ints ns] <;> rfl
theorem dict_ints : ∀ ns : List Int, PyData.hasDictAll (ns.map PyData.int) = false
  | [] => rfl
  | n :: ns => by
    show (false || PyData.hasDictAll (ns.map PyData.int)) = false
    rw [dict_ints ns] <;> rfl
theorem show_ints : ∀ ns : List Int, (∀ n ∈ ns, n.natAbs < 1000000) → PyData.showableAll (ns.map PyData.int) = true
  | [], _ => rfl
  | n :: ns, h => by
    have h1 := show_ints ns fun m hm => h m (List.mem_cons_of_mem _ hm)
    have h2 : decide (n.natAbs.log2 < 1920) = true := by
      refine decide_eq_true ?_
      have h0 := h n List.mem_cons_self
      by_cases hz : n.natAbs = 0
      · rw [hz]; decide
      · exact (Nat.log2_lt hz).mpr (Nat.lt_trans h0 (by decide +kernel))
    show (decide (n.natAbs.log2 < 1920) && PyData.showableAll (ns.map PyData.int)) = true
    rw [h1, h2] <;> rfl
/-- what is shown of the ints, in a list (true) or a tuple -/
def shownI (l : Bool) (ns : List Int) : Str := (if l then PyData.list (ns.map PyData.int) else PyData.tuple (ns.map PyData.int)).shown
section
variable {X : Cx}
def rRepr (K : PySem.W.Frag) : List V → Hp → VK → Prop := fun xs H Q => ∃ (a : Addr) (ns : List Int) (l : Bool), xs = [.ref a] ∧ (if l then SqL K H a (ns.map V.int) else SqT K H a (ns.map V.int)) ∧ ns.length ≤ 100 ∧ (∀ n ∈ ns, n.natAbs < 1000000) ∧ Q (.str (shownI l ns)) H
theorem cr_repr (hg : X.A.guards = some []) (hu : X.A.units + 64 < cLine) : CallR X (.builtin "repr") (rRepr X.K) := by
  intro pins s σ H xs us Q I r h
  obtain ⟨a, ns, l, rfl, hl, hn, hb, q⟩ := h
  obtain ⟨u, rfl, r1⟩ := vals1 r
  cases (show u = Value.ref a from r1)
  have small : 21 * ns.length ≤ 2 ^ 20 := Nat.le_trans (Nat.mul_le_mul_left 21 hn) (by decide)
  have wt := wt_ints ns hb
  have i13 := PyData.intsShortAll_ints ns fun n hm => Nat.lt_trans (hb n hm) (by decide)
  cases l with
  | true =>
    have hl' : SqL X.K H a (ns.map V.int) := hl
    obtain ⟨its, rv, p, hz⟩ := I.list hl'
    obtain ⟨o, ho, hc, n, hd⟩ := p.isList
    have rd : Reads s.heap (.ref a) (.list (ns.map PyData.int)) [a] := .list ho hc hd (reads_ints rv)
    have lay : PyData.layable0 (.list (ns.map PyData.int)) = true := by
      show (PyData.canLayAll0 (ns.map PyData.int) && decide (PyData.depthAll (ns.map PyData.int) + 1 ≤ 64) && decide (PyData.weightAll (ns.map PyData.int) ≤ 2 ^ 20)) = true
      rw [can_ints, dep_ints, decide_eq_true (Nat.le_trans wt small)] <;> rfl
    exact repr_of_reads' rd (show_ints ns hb) (PyData.noDict_hsm (dict_ints ns)) hg (by show X.A.units + (PyData.depthAll (ns.map PyData.int) + 1 + 1) < cLine; rw [dep_ints]; omega) (fun _ _ e => e)
      (fun h' u tk hk => ⟨.str (shownI true ns), H, I.kept (t' := tk) hk, ⟨u, rfl⟩, q⟩) (PyData.shown_fits_of_layable0 (B := 13) (by decide) (by decide) lay i13)
  | false =>
    have hl' : SqT X.K H a (ns.map V.int) := hl
    obtain ⟨its, rv, p, hz⟩ := I.tuple hl'
    obtain ⟨o, ho, hc, n, hd⟩ := p
    have rd : Reads s.heap (.ref a) (.tuple (ns.map PyData.int)) [] := .tuple ho hc hd (reads_ints rv)
    have lay : PyData.layable0 (.tuple (ns.map PyData.int)) = true := by
      show (PyData.canLayAll0 (ns.map PyData.int) && decide (PyData.depthAll (ns.map PyData.int) + 1 ≤ 64) && decide (PyData.weightAll (ns.map PyData.int) ≤ 2 ^ 20)) = true
      rw [can_ints, dep_ints, decide_eq_true (Nat.le_trans wt small)] <;> rfl
    exact repr_of_reads' rd (show_ints ns hb) (PyData.noDict_hsm (dict_ints ns)) hg (by show X.A.units + (PyData.depthAll (ns.map PyData.int) + 1 + 1) < cLine; rw [dep_ints]; omega) (fun _ _ e => e)
      (fun h' u tk hk => ⟨.str (shownI false ns), H, I.kept (t' := tk) hk, ⟨u, rfl⟩, q⟩) (PyData.shown_fits_of_layable0 (B := 13) (by decide) (by decide) lay i13)
end
theorem caller_guards (env : Env) : (callerA.deeper env).guards = some [] := rfl
end PA
/-! P1d: t * n from n = 1 on. -/
namespace PA
open PySem PySem.Spec PyProof.Rows L2
theorem tuple_mul1 (l : Addr) (items : Array Value) (n : Nat) (dd : Option Addr) (sl : Array (Option Value)) (u : Tok) :
    Meets (Builtin.«tuple.__mul__» ⟨[.ref l, .int 1 u], []⟩) (fun _ R s => s.heap.get? l = some { cls := .type "tuple", dict := dd, data := .seq items n, slots := sl } ∧ R (.ok (.ret (Value.ref l))) s) :=
  .of_wp fun prog w A R s h => by
    obtain ⟨hp, g, d, tk, os⟩ := s
    obtain ⟨hl, h⟩ := h
    have f1 := AutoSeq1.idx_int
    have c1 : (items.isEmpty || (1 : Int) == 1) = true := by simp
    wp_walk using wpAny_loadPart' hl
    repeat (first
      | (refine wpAny_ite_false (decide_eq_false (by decide)) ?_; wp_walk using wpAny_loadPart' hl)
      | (refine wpAny_ite_true (decide_eq_true c1) ?_; wp_walk using wpAny_loadPart' hl))
    exact ⟨_, rfl, h⟩
section
variable {X : Cx}
/-- t * n, n from 1 on -/
def rRepA (K : PySem.W.Frag) : R2 := fun x y H Q => ∃ l k xs, x = .ref l ∧ y = .int k ∧ SqT K H l xs ∧ xs ≠ [] ∧ 1 ≤ k ∧ k ≤ 1000 ∧ xs.length ≤ 1000 ∧ (k = 1 → Q (.ref l) H) ∧ (k ≠ 1 → ∀ p, H p = none → Q (.ref p) (upd H p (.tup (List.replicate k.toNat xs).flatten)))
theorem op_repA : OpR X (binaryOp .Mult) (rRepA X.K) := by
  intro pins s σ H x y v u Q I rx ry h
  obtain ⟨l, k, xs, rfl, rfl, hT, hne, h1, h2, hz, q1, q2⟩ := h
  by_cases hk : k = 1
  · subst hk
    cases rx
    obtain ⟨t, rfl⟩ := ry
    obtain ⟨its, r, ⟨⟨cls, dd, data, sl⟩, ho, hc, n, hd⟩, hs⟩ := I.tuple hT
    simp only at hc hd
    subst hc hd
    exact wpAny_binaryOp_repeat_ref (T := "tuple") (U := "int") (by decide) ⟨_, ho, rfl⟩ (fun s' => typeIs_int s' 1 t) noFill_tuple_mul F.fills_int_mul F.slot_int_rmul repeat_tuple F.slot_int_index.lookup
      (call_meets F.slot_int_rmul (typeIs_int s 1 t) F.entry_int_rmul (F.args_int_rmul_2 _ _) (int_rmul_tuple 1 t l its.toArray n dd sl)
        ⟨ho, rfl, ⟨_, ho, rfl⟩, call_meets F.slot_tuple_mul ⟨_, ho, rfl⟩ F.entry_tuple_mul (F.args_tuple_mul_2 _ _) (tuple_mul1 l its.toArray n dd sl t) ⟨ho, .ref l, H, I, rfl, q1 rfl⟩⟩)
  · exact op_repT pins s σ H _ _ v u Q I rx ry ⟨l, k, xs, rfl, rfl, hT, hne, by omega, h2, hz, q2 hk⟩
end
end PA
/-! P2: the text by places, defs and classes that may be called, the built-ins. -/
namespace PA
open PySem PyProof.Rows L2
def top (i : Nat) : Stmt := PySem.Challenge.pw_purseahead_k35_whole_one_paced_at_all_li.main.body.getD i (.Pass ⟨0, 0, 0, 0⟩)
abbrev FnP (K : PySem.W.Frag) (x q : Str) (st : Stmt) (f : Addr) (fd : FuncData) : Prop := FunD K x q (defArgs st) (defBody st) (defScope st) [] [] f fd
/-- the names of built-ins stand for the built-ins -/
structure Bl (mg : Str → Option Value) : Prop where
  b_len : mg "len" = none
  b_isinstance : mg "isinstance" = none
  b_int : mg "int" = none
  b_bool : mg "bool" = none
  b_list : mg "list" = none
  b_tuple : mg "tuple" = none
  b_set : mg "set" = none
  b_range : mg "range" = none
  b_enumerate : mg "enumerate" = none
  b_sorted : mg "sorted" = none
  b_sum : mg "sum" = none
  b_max : mg "max" = none
  b_abs : mg "abs" = none
  b_repr : mg "repr" = none
  most : ∃ u, mg "MOST_CHARGE" = some u ∧ RelV (.int 1000000000000) u
  great : ∃ u, mg "GREATEST_LIMIT" = some u ∧ RelV (.int 1000000000000000) u
theorem bt_len : bootBuiltins "len" = some (.builtin "len") := by decide +kernel
theorem bt_isinstance : bootBuiltins "isinstance" = some (.builtin "isinstance") := by decide +kernel
theorem bt_sorted : bootBuiltins "sorted" = some (.builtin "sorted") := by decide +kernel
theorem bt_sum : bootBuiltins "sum" = some (.builtin "sum") := by decide +kernel
theorem bt_max : bootBuiltins "max" = some (.builtin "max") := by decide +kernel
theorem bt_abs : bootBuiltins "abs" = some (.builtin "abs") := by decide +kernel
theorem bt_repr : bootBuiltins "repr" = some (.builtin "repr") := by decide +kernel
theorem bt_int : bootBuiltins "int" = some (.type "int") := by decide +kernel
theorem bt_bool : bootBuiltins "bool" = some (.type "bool") := by decide +kernel
theorem bt_list : bootBuiltins "list" = some (.type "list") := by decide +kernel
theorem bt_tuple : bootBuiltins "tuple" = some (.type "tuple") := by decide +kernel
theorem bt_set : bootBuiltins "set" = some (.type "set") := by decide +kernel
section
variable {X : Cx}
theorem pe_gc {x : Str} {pos : Pos} {v : V} (hg : Gl X x) (h : ∃ u, X.mg x = some u ∧ RelV v u) (hd : (x == ("__debug__" : Str)) = false := by decide) : PE X (.Name x pos) (tC v) := by
  obtain ⟨u, hm, r⟩ := h
  exact pe_glob hg hm r hd
/-! ### the rules with the written part named: what they give stands in no block -/
variable {K : PySem.W.Frag} {e l o a b : Expr} {te tl ta tb : TE} {t : TA} {f : Str} {pos : Pos} {tg : Expr}
theorem pt_truK (hK : X.K = K := by rfl) (ha : PE X a ta) (he : ∀ whole, isTrue a X.env whole = (do let v ← whole; standAt a.pos; holding [v] (truthy v)) := by intro _; rfl) : PT X a (tTru K ta) := by
  subst hK
  exact pt_truth ha he
theorem ix_K (hK : X.K = K := by rfl) : IxR X (rIx K) := by
  subst hK
  exact ix_seq
theorem pe_fldK (hK : X.K = K := by rfl) (he : PE X e te) (hb : attributeBase e f X.env (eval e X.env) = eval e X.env) : PE X (.Attribute e f pos) (tFld K te f) := by
  subst hK
  exact pe_fld he hb
theorem pi_listK (hK : X.K = K := by rfl) (hl : PE X l tl) : PI X tg l (iList K tl) := by
  subst hK
  exact pi_list hl
theorem pi_tupK (hK : X.K = K := by rfl) (hl : PE X l tl) : PI X tg l (iTup K tl) := by
  subst hK
  exact pi_tup hl
theorem pg_tupK (hK : X.K = K := by rfl) {es : List Expr} {k : Nat} {t : TGs} {n : Nat} (hc : X.calm = true) (h : PGs X es t) (hn : (assignEach es X.env).length = n := by rfl) (hst : (assignEach es X.env).findIdx? (·.1) = none := by rfl) : PG X (.Tuple es k pos) (gTup K n t) := by
  subst hK
  exact pg_tup hc h hn hst
theorem cr_sumK (hK : X.K = K := by rfl) (hc : X.calm = true) : CallR X (.builtin "sum") (rSum K) := by
  subst hK
  exact cr_sum hc
theorem cr_maxK (hK : X.K = K := by rfl) (hc : X.calm = true) : CallR X (.builtin "max") (rMax K) := by
  subst hK
  exact cr_max hc
theorem cr_sortK (hK : X.K = K := by rfl) : CallR X (.builtin "sorted") (rSorted K) := by
  subst hK
  exact cr_sorted
def rLen (K : PySem.W.Frag) : List V → Hp → VK → Prop := fun xs H Q => ∃ x n, xs = [x] ∧ LenV K x H n ∧ Q (.int n) H
theorem call_lenK (hK : X.K = K := by rfl) : CallR X (.builtin "len") (rLen K) := by
  subst hK
  exact call_len
def rIntB : List V → Hp → VK → Prop := fun xs H Q => (∃ i, xs = [.int i] ∧ Q (.int i) H) ∨ ∃ k, xs = [.bl k] ∧ Q (.int (if k then 1 else 0)) H
theorem call_intK : CallR X (.type "int") rIntB := call_int1
def rAbs : List V → Hp → VK → Prop := fun xs H Q => ∃ i, xs = [.int i] ∧ Q (.int (if i < 0 then -i else i)) H
theorem call_absK : CallR X (.builtin "abs") rAbs := call_abs
def rMax2 : List V → Hp → VK → Prop := fun xs H Q => ∃ i j, xs = [.int i, .int j] ∧ Q (.int (if j > i then j else i)) H
theorem call_max2K (hc : X.calm = true) : CallR X (.builtin "max") rMax2 := call_max2 hc
def rTupOf (K : PySem.W.Frag) : List V → Hp → VK → Prop := fun xs H Q => ∃ p ys, xs = [.ref p] ∧ ((SqL K H p ys ∧ ∀ l, H l = none → Q (.ref l) (upd H l (.tup ys))) ∨ (SqT K H p ys ∧ Q (.ref p) H))
theorem call_tupK (hK : X.K = K := by rfl) : CallR X (.type "tuple") (rTupOf K) := by
  subst hK
  exact call_tuple_of
def rLstOf (K : PySem.W.Frag) : List V → Hp → VK → Prop := fun xs H Q => ∃ p ys, xs = [.ref p] ∧ (SqL K H p ys ∨ SqT K H p ys) ∧ ∀ l, H l = none → Q (.ref l) (upd H l (.lst ys))
theorem call_lstK (hK : X.K = K := by rfl) : CallR X (.type "list") (rLstOf K) := by
  subst hK
  exact call_list_of
theorem op_inK (hK : X.K = K := by rfl) : OpR X (compareOp .In) (rIn K false) := by
  subst hK
  exact op_in_seq
theorem op_niK (hK : X.K = K := by rfl) : OpR X (compareOp .NotIn) (rIn K true) := by
  subst hK
  exact op_notIn_seq
theorem isi_K (hK : X.K = K := by rfl) : CallR X (.builtin "isinstance") (rIsi K) := by
  subst hK
  exact call_isi
theorem isiT_K (hK : X.K = K := by rfl) : CallR X (.builtin "isinstance") (rIsiT K) := by
  subst hK
  exact call_isiT
theorem pi_enK {e : Expr} {ta : TA} {p pos tpos : Pos} {elts : List Expr} {kk : Nat} (hK : X.K = K := by rfl) (hg : Gl X "enumerate") (hm : X.mg "enumerate" = none) (ha : PA X [e] ta) (hs : starEach [e] X.env = [(false, eval e X.env)] := by rfl) :
    PI X (.Tuple elts kk tpos) (.Call (.Name "enumerate" p) [e] [] pos) (iEnumA K ta) := by
  subst hK
  exact pi_enumA hg hm ha hs
end
/-- a def that may be called by its name -/
structure Cal (P : Program) (w : World) (K : PySem.W.Frag) (mg : Str → Option Value) (base : Heap) (k : Nat) (x : Str) (sp : Sp) : Prop where
  ex : ∃ (f : Addr) (fd : FuncData) (ps : List Str), FnOk P w K mg base CX0 k f fd ps sp ∧ mg x = some (.ref f) ∧ PySem.W.keepIn K (.ref f) = true ∧ Binds K fd ps []
theorem pe_c {X : Cx} {k j : Nat} {x : Str} {sp : Sp} {q pos : Pos} {e : Expr} {es : List Expr} {t : TA} (c : Cal X.prog X.w X.K X.mg X.base k x sp) (hr : Room j X.A) (hk : k ≤ j) (hg : Gl X x) (ha : PA X (e :: es) t)
    (hdb : (x == ("__debug__" : Str)) = false := by decide) (he : starEach (e :: es) X.env = (false, eval e X.env) :: starEach es X.env := by rfl) (hpl : (backTo pos (starEach es X.env)).any (·.1) = false := by rfl) :
    PE X (.Call (.Name x q) (e :: es) [] pos) (tCall sp [] E0 t) := by
  obtain ⟨f, fd, ps, G, hm, kp, b⟩ := c.ex
  exact pe_call G (hr.mono hk) hg hm kp b .nil pass0 ha hdb he hpl
/-- a class that may be made by its name; sp its __init__ -/
structure Mak (P : Program) (w : World) (K : PySem.W.Frag) (mg : Str → Option Value) (base : Heap) (k : Nat) (x : Str) (C : Addr) (sp : Sp) : Prop where
  ex : ∃ (f : Addr) (fd : FuncData) (ps : List Str), Mk K C f ∧ FnOk P w K mg base CX0 k f fd ps sp ∧ mg x = some (.ref C) ∧ Binds K fd ps []
theorem pe_mk {X : Cx} {k j : Nat} {x : Str} {C : Addr} {sp : Sp} {q pos : Pos} {e : Expr} {es : List Expr} {t : TA} (c : Mak X.prog X.w X.K X.mg X.base k x C sp) (hr : Room j X.A) (hk : k + 1 ≤ j) (hg : Gl X x) (ha : PA X (e :: es) t)
    (hdb : (x == ("__debug__" : Str)) = false := by decide) (he : starEach (e :: es) X.env = (false, eval e X.env) :: starEach es X.env := by rfl) (hpl : (backTo pos (starEach es X.env)).any (·.1) = false := by rfl) :
    PE X (.Call (.Name x q) (e :: es) [] pos) (tMake C sp [] E0 t) := by
  obtain ⟨f, fd, ps, M, G, hm, b⟩ := c.ex
  exact pe_make M G (hr.mono hk) hg hm b .nil pass0 ha hdb he hpl
section
variable {P : Program} {w : World} {K : PySem.W.Frag} {mg : Str → Option Value} {base : Heap}
theorem fn_by {x q : Str} {st : Stmt} {f : Addr} {fd : FuncData} {N ps : List Str} {k : Nat} {sp : Sp} (F : FnP K x q st f fd) (S : FnScope N ps (defScope st)) (len : ∀ vs H Q E, sp vs H Q E → vs.length = ps.length)
    (hbody : ∀ (cdv : Value) (A : Around) (outer : List Env) (s : Shared) (H : Hp) (vs : List V) (Q : VK) (E : XK), Room k (A.deeper (envOfC q (defScope st) s.heap.objs.size f cdv)) → sp vs H Q E →
      ∃ t, PSs (cxOf CX0 P w K mg base N q (defScope st) f cdv A outer s H E).nox (defBody st) t ∧ t { nx := fun _ H' => Q .non H', rt := Q } (start N vs) H) : FnOk P w K mg base CX0 (k + 1) f fd ps sp :=
  FunD.ok F S len fun cdv A outer s H vs Q E hr h => (hbody cdv A outer s H vs Q E hr h).imp fun t ht => ⟨ht.1.nox, ht.2⟩
/-- where a def stands -/
structure Df (K : PySem.W.Frag) (mg : Str → Option Value) (x : Str) (st : Stmt) (ps : List Str) : Prop where
  ex : ∃ (f : Addr) (fd : FuncData), FnP K x x st f fd ∧ mg x = some (.ref f) ∧ Binds K fd ps []
theorem cal_of {x : Str} {st : Stmt} {N ps : List Str} {k : Nat} {sp : Sp} (D : Df K mg x st ps) (S : FnScope N ps (defScope st)) (len : ∀ vs H Q E, sp vs H Q E → vs.length = ps.length)
    (hbody : ∀ (f : Addr) (cdv : Value) (A : Around) (outer : List Env) (s : Shared) (H : Hp) (vs : List V) (Q : VK) (E : XK), Room k (A.deeper (envOfC x (defScope st) s.heap.objs.size f cdv)) → sp vs H Q E →
      ∃ t, PSs (cxOf CX0 P w K mg base N x (defScope st) f cdv A outer s H E).nox (defBody st) t ∧ t { nx := fun _ H' => Q .non H', rt := Q } (start N vs) H) : Cal P w K mg base (k + 1) x sp := by
  obtain ⟨f, fd, F, hm, hb⟩ := D.ex
  exact ⟨f, fd, ps, fn_by F S len (hbody f), hm, F.kp, hb⟩
/-- where a class stands, its __init__ -/
structure Dc (K : PySem.W.Frag) (mg : Str → Option Value) (x q : Str) (C : Addr) (st : Stmt) (ps : List Str) : Prop where
  ex : ∃ (f : Addr) (fd : FuncData), FnP K "__init__" q st f fd ∧ Mk K C f ∧ mg x = some (.ref C) ∧ Binds K fd ps []
  cl : Cls K C
theorem mak_of {x q : Str} {C : Addr} {st : Stmt} {N ps : List Str} {k : Nat} {sp : Sp} (D : Dc K mg x q C st ps) (S : FnScope N ps (defScope st)) (len : ∀ vs H Q E, sp vs H Q E → vs.length = ps.length)
    (hbody : ∀ (f : Addr) (cdv : Value) (A : Around) (outer : List Env) (s : Shared) (H : Hp) (vs : List V) (Q : VK) (E : XK), Room k (A.deeper (envOfC q (defScope st) s.heap.objs.size f cdv)) → sp vs H Q E →
      ∃ t, PSs (cxOf CX0 P w K mg base N q (defScope st) f cdv A outer s H E).nox (defBody st) t ∧ t { nx := fun _ H' => Q .non H', rt := Q } (start N vs) H) : Mak P w K mg base (k + 1) x C sp := by
  obtain ⟨f, fd, F, M, hm, hb⟩ := D.ex
  exact ⟨f, fd, ps, M, fn_by F S len (hbody f), hm, hb⟩
/-- the classes -/
structure Tx (K : PySem.W.Frag) (Cc Cm Cs : Addr) : Prop where
  c : Cls K Cc
  m : Cls K Cm
  s : Cls K Cs
  c_costs : NoAttr K Cc "costs"
  c_arrows : NoAttr K Cc "arrows"
  m_chart : NoAttr K Cm "chart"
  m_first : NoAttr K Cm "first"
  m_charges : NoAttr K Cm "charges"
  s_places : NoAttr K Cs "places"
  s_unused : NoAttr K Cs "unused"
end
end PA
/-! P3: the mathematics. Plain lists and numbers. -/
namespace PA
/-! ### lists by place -/
def nth (xs : List Int) (i : Nat) : Int := xs.getD i 0
theorem nth_get {xs : List Int} {i : Nat} (h : i < xs.length) : xs[i]? = some (nth xs i) := by
  unfold nth
  rw [List.getD_eq_getElem?_getD, List.getElem?_eq_getElem h]
  rfl
theorem nth_mem {xs : List Int} {i : Nat} (h : i < xs.length) : nth xs i ∈ xs := List.mem_of_getElem? (nth_get h)
theorem nth_set {xs : List Int} {i j : Nat} {v : Int} (h : i < xs.length) : nth (xs.set i v) j = if j = i then v else nth xs j := by
  unfold nth
  rw [List.getD_eq_getElem?_getD, List.getD_eq_getElem?_getD, List.getElem?_set]
  by_cases e : i = j
  · subst e
    rw [if_pos rfl, if_pos rfl, if_pos h]
    rfl
  · rw [if_neg e, if_neg (fun z => e z.symm)]
theorem nth_ext {xs ys : List Int} (hl : xs.length = ys.length) (h : ∀ i, i < xs.length → nth xs i = nth ys i) : xs = ys := by
  refine List.ext_getElem? fun i => ?_
  by_cases hi : i < xs.length
  · rw [nth_get hi, nth_get (hl ▸ hi), h i hi]
  · rw [List.getElem?_eq_none (by omega), List.getElem?_eq_none (by omega)]
abbrev Arr := List (Nat × Nat)
def ar (a : Arr) (k : Nat) : Nat × Nat := a.getD k (0, 0)
theorem ar_get {a : Arr} {k : Nat} (h : k < a.length) : a[k]? = some (ar a k) := by
  unfold ar
  rw [List.getD_eq_getElem?_getD, List.getElem?_eq_getElem h]
  rfl
theorem ar_mem {a : Arr} {k : Nat} (h : k < a.length) : ar a k ∈ a := List.mem_of_getElem? (ar_get h)
theorem mem_ar {a : Arr} {e : Nat × Nat} (h : e ∈ a) : ∃ k, k < a.length ∧ ar a k = e := by
  obtain ⟨k, hk, e1⟩ := List.mem_iff_getElem.mp h
  refine ⟨k, hk, ?_⟩
  have := ar_get hk
  rw [List.getElem?_eq_getElem hk] at this
  rw [← e1]
  exact (Option.some.inj this).symm
/-! ### walks, the end ahead -/
inductive W (a : Arr) : List Nat → Prop
  | one (v : Nat) : W a [v]
  | step {u h : Nat} {r : List Nat} : W a (u :: r) → (u, h) ∈ a → W a (h :: u :: r)
def val (c L : Nat → Int) : List Nat → Int
  | [] => 0
  | [v] => L v
  | _ :: u :: r => val c L (u :: r) - c u
theorem W.tail {a : Arr} {h u : Nat} {r : List Nat} (w : W a (h :: u :: r)) : W a (u :: r) := by
  cases w with
  | step w _ => exact w
theorem W.suffix {a : Arr} {x : Nat} {r : List Nat} : ∀ {s : List Nat}, W a (s ++ x :: r) → W a (x :: r)
  | [], w => w
  | [_], w => w.tail
  | _ :: y :: s, w => W.suffix (s := y :: s) w.tail
theorem val_suffix {c L : Nat → Int} (hc : ∀ v, 0 ≤ c v) {x : Nat} {r : List Nat} : ∀ {s : List Nat}, val c L (s ++ x :: r) ≤ val c L (x :: r)
  | [] => Int.le_refl _
  | [y] => by
    show val c L (x :: r) - c x ≤ val c L (x :: r)
    have := hc x
    omega
  | y :: z :: s => by
    have ih := val_suffix hc (L := L) (x := x) (r := r) (s := z :: s)
    have e : val c L (y :: z :: s ++ x :: r) = val c L (z :: s ++ x :: r) - c z := rfl
    have := hc z
    omega
theorem last_suffix {x : Nat} {r : List Nat} : ∀ {s : List Nat}, (s ++ x :: r).getLast? = (x :: r).getLast? := fun {s} => by
  rw [List.getLast?_append]
  cases h : (x :: r).getLast? with
  | none => simp at h
  | some y => rfl
theorem W.short {a : Arr} {c L : Nat → Int} (hc : ∀ v, 0 ≤ c v) {l : List Nat} (w : W a l) : ∃ l', W a l' ∧ l'.head? = l.head? ∧ l'.getLast? = l.getLast? ∧ l'.Nodup ∧ val c L l ≤ val c L l' ∧ (∀ x ∈ l', x ∈ l) := by
  induction w with
  | one v => exact ⟨[v], .one v, rfl, rfl, by simp, Int.le_refl _, fun _ h => h⟩
  | @step u h r w e ih =>
    obtain ⟨l', w', h1, h2, h3, h4, h5⟩ := ih
    cases l' with
    | nil => simp at h1
    | cons u' r' =>
      have eu : u' = u := by simpa using h1
      subst eu
      have e1 : val c L (h :: u' :: r) = val c L (u' :: r) - c u' := rfl
      have := hc u'
      by_cases hm : h ∈ u' :: r'
      · obtain ⟨s, t, es⟩ := List.append_of_mem hm
        rw [es] at w' h2 h3 h4
        have h6 := val_suffix hc (L := L) (x := h) (r := t) (s := s)
        refine ⟨h :: t, w'.suffix, rfl, ?_, (List.nodup_append.mp h3).2.1, by omega, fun x hx => ?_⟩
        · rw [last_suffix] at h2
          rw [h2]
          simp
        · exact List.mem_cons_of_mem _ (h5 x (by rw [es]; exact List.mem_append_right _ hx))
      · refine ⟨h :: u' :: r', .step w' e, rfl, ?_, List.nodup_cons.mpr ⟨hm, h3⟩, ?_, fun x hx => ?_⟩
        · rw [List.getLast?_cons_cons, List.getLast?_cons_cons]
          exact h2
        · have e2 : val c L (h :: u' :: r') = val c L (u' :: r') - c u' := rfl
          omega
        · rcases List.mem_cons.mp hx with z | z
          · rw [z]; exact List.mem_cons_self
          · exact List.mem_cons_of_mem _ (h5 x z)
theorem nodup_len : ∀ (n : Nat) (l : List Nat), l.Nodup → (∀ x ∈ l, x < n) → l.length ≤ n
  | 0, l, _, h => by
    cases l with
    | nil => exact Nat.le_refl _
    | cons x r => exact absurd (h x List.mem_cons_self) (Nat.not_lt_zero _)
  | n + 1, l, hd, h => by
    have h1 := nodup_len n (l.erase n) (hd.erase n) fun x hx => by
      have hx2 := (List.Nodup.mem_erase_iff hd).mp hx
      have := h x hx2.2
      have := hx2.1
      omega
    by_cases hm : n ∈ l
    · have := List.length_erase_of_mem hm
      omega
    · rw [List.erase_of_not_mem hm] at h1
      omega
/-! ### reached -/
inductive Reach (a : Arr) : Nat → Prop
  | zero : Reach a 0
  | step {t h : Nat} : Reach a t → (t, h) ∈ a → Reach a h
inductive Wk (a : Arr) : Nat → Nat → Prop
  | zero : Wk a 0 0
  | step {k t h : Nat} : Wk a k t → (t, h) ∈ a → Wk a (k + 1) h
theorem wk_of {a : Arr} : ∀ {l : List Nat} {v : Nat}, W a l → l.head? = some v → l.getLast? = some 0 → Wk a (l.length - 1) v
  | [x], v, _, h1, h2 => by
    have e1 : x = v := by simpa using h1
    have e2 : x = 0 := by simpa using h2
    subst e1
    subst e2
    exact .zero
  | x :: y :: r, v, w, h1, h2 => by
    have e1 : x = v := by simpa using h1
    subst e1
    cases w with
    | step w e =>
      have ih := wk_of (l := y :: r) (v := y) w rfl (by rw [List.getLast?_cons_cons] at h2; exact h2)
      exact .step ih e
theorem Reach.wk {a : Arr} {n v : Nat} (hn : ∀ e ∈ a, e.1 < n ∧ e.2 < n) (h0 : 0 < n) (r : Reach a v) : ∃ k, k < n ∧ Wk a k v := by
  have : ∃ l, W a l ∧ l.head? = some v ∧ l.getLast? = some 0 ∧ ∀ x ∈ l, x < n := by
    induction r with
    | zero => exact ⟨[0], .one 0, rfl, rfl, fun x hx => by rw [List.mem_singleton.mp hx]; exact h0⟩
    | @step t h _ e ih =>
      obtain ⟨l, w, h1, h2, h3⟩ := ih
      cases l with
      | nil => simp at h1
      | cons u r =>
        have eu : u = t := by simpa using h1
        subst eu
        refine ⟨h :: u :: r, .step w e, rfl, by rw [List.getLast?_cons_cons]; exact h2, fun x hx => ?_⟩
        rcases List.mem_cons.mp hx with z | z
        · rw [z]; exact (hn _ e).2
        · exact h3 x z
  obtain ⟨l, w, h1, h2, h3⟩ := this
  obtain ⟨l', w', e1, e2, nd, _, e3⟩ := w.short (c := fun _ => 0) (L := fun _ => 0) (fun _ => Int.le_refl _)
  have hl := nodup_len n l' nd fun x hx => h3 x (e3 x hx)
  have hp : 0 < l'.length := by
    cases l' with
    | nil => rw [h1] at e1; simp at e1
    | cons _ _ => exact Nat.succ_pos _
  exact ⟨l'.length - 1, by omega, wk_of w' (e1.trans h1) (e2.trans h2)⟩
theorem Reach.mono {a b : Arr} {v : Nat} (r : Reach a v) (h : ∀ e ∈ a, e ∈ b) : Reach b v := by
  induction r with
  | zero => exact .zero
  | step _ e ih => exact .step ih (h _ e)
/-- the arrows renamed -/
theorem Reach.map {a : Arr} {f : Nat → Nat} (h0 : f 0 = 0) {v : Nat} (r : Reach a v) : Reach (a.map fun e => (f e.1, f e.2)) (f v) := by
  induction r with
  | zero => rw [h0]; exact .zero
  | @step t h _ e ih => exact .step ih (List.mem_map.mpr ⟨(t, h), e, rfl⟩)
/-! ### the search of all places -/
def falses : List Bool → Nat
  | [] => 0
  | b :: r => (if b then 0 else 1) + falses r
theorem falses_set : ∀ {r : List Bool} {i : Nat}, r[i]? = some false → falses (r.set i true) + 1 = falses r
  | [], _, h => by simp at h
  | b :: r, 0, h => by
    have e : b = false := by simpa using h
    subst e
    show (0 + falses r) + 1 = 1 + falses r
    omega
  | b :: r, i + 1, h => by
    have ih := falses_set (r := r) (i := i) (by simpa using h)
    show ((if b then 0 else 1) + falses (r.set i true)) + 1 = (if b then 0 else 1) + falses r
    omega
theorem falses_le : ∀ r : List Bool, falses r ≤ r.length
  | [] => Nat.le_refl _
  | b :: r => by
    have := falses_le r
    show (if b then 0 else 1) + falses r ≤ r.length + 1
    split <;> omega
/-- ahead of a place's arrows: found waits, reached marks -/
structure RcA (a : Arr) (n : Nat) (fd : List Nat) (rc : List Bool) (m : Nat) : Prop where
  len : rc.length = n
  zero : rc[0]? = some true
  fnd : ∀ x ∈ fd, x < n ∧ rc[x]? = some true
  clo : ∀ e ∈ a, rc[e.1]? = some true → e.1 ∉ fd → rc[e.2]? = some true
  me : fd.length + falses rc = m
/-- among a place's arrows: k of them done -/
structure RcB (a : Arr) (n : Nat) (x : Nat) (k : Nat) (fd : List Nat) (rc : List Bool) (m : Nat) : Prop where
  len : rc.length = n
  zero : rc[0]? = some true
  fnd : ∀ x ∈ fd, x < n ∧ rc[x]? = some true
  clo : ∀ j, j < a.length → rc[(ar a j).1]? = some true → (ar a j).1 ∉ fd → ((ar a j).1 ≠ x ∨ j < k) → rc[(ar a j).2]? = some true
  me : fd.length + falses rc = m
theorem RcA.pop {a : Arr} {n x m : Nat} {fd : List Nat} {rc : List Bool} (h : RcA a n (fd ++ [x]) rc (m + 1)) : RcB a n x 0 fd rc m where
  len := h.len
  zero := h.zero
  fnd := fun y hy => h.fnd y (List.mem_append_left _ hy)
  clo := fun j hj h1 h2 h3 => h.clo _ (ar_mem hj) h1 fun z => by
    rcases List.mem_append.mp z with z | z
    · exact h2 z
    · rcases h3 with h3 | h3
      · exact h3 (List.mem_singleton.mp z)
      · exact Nat.not_lt_zero _ h3
  me := by
    have := h.me
    rw [List.length_append] at this
    simp at this
    omega
theorem RcB.push {a : Arr} {n x k m : Nat} {fd : List Nat} {rc : List Bool} (h : RcB a n x k fd rc m) (hk : k < a.length) (h2 : (ar a k).2 < n) (hf : rc[(ar a k).2]? = some false) : RcB a n x (k + 1) (fd ++ [(ar a k).2]) (rc.set (ar a k).2 true) m := by
  have keep : ∀ y : Nat, rc[y]? = some true → (rc.set (ar a k).2 true)[y]? = some true := fun y hy => by
    rw [List.getElem?_set]
    split
    · have hl := h.len
      rw [if_pos (by omega)]
    · exact hy
  have back : ∀ y : Nat, (rc.set (ar a k).2 true)[y]? = some true → y = (ar a k).2 ∨ rc[y]? = some true := fun y hy => by
    rw [List.getElem?_set] at hy
    by_cases e : (ar a k).2 = y
    · exact .inl e.symm
    · rw [if_neg e] at hy
      exact .inr hy
  have new : (rc.set (ar a k).2 true)[(ar a k).2]? = some true := by
    rw [List.getElem?_set, if_pos rfl, if_pos (by rw [h.len]; exact h2)]
  refine ⟨by rw [List.length_set]; exact h.len, keep 0 h.zero, fun y hy => ?_, fun j hj h1 h2 h3 => ?_, ?_⟩
  · rcases List.mem_append.mp hy with z | z
    · exact ⟨(h.fnd y z).1, keep y (h.fnd y z).2⟩
    · rw [List.mem_singleton.mp z]
      exact ⟨h2, new⟩
  · rcases back _ h1 with z | z
    · exact absurd (List.mem_append_right fd (by rw [z]; exact List.mem_singleton.mpr rfl)) h2
    · by_cases ej : j = k
      · subst ej
        exact new
      · exact keep _ (h.clo j hj z (fun q => h2 (List.mem_append_left _ q)) (h3.imp id fun q => by omega))
  · have := falses_set hf
    have := h.me
    rw [List.length_append]
    simp
    omega
theorem RcB.skip {a : Arr} {n x k m : Nat} {fd : List Nat} {rc : List Bool} (h : RcB a n x k fd rc m) (hs : (ar a k).1 ≠ x ∨ rc[(ar a k).2]? = some true) : RcB a n x (k + 1) fd rc m :=
  ⟨h.len, h.zero, h.fnd, fun j hj h1 h2 h3 => by
    by_cases ej : j = k
    · subst ej
      rcases hs with z | z
      · exact h.clo j hj h1 h2 (.inl z)
      · exact z
    · exact h.clo j hj h1 h2 (h3.imp id fun q => by omega), h.me⟩
theorem RcB.done {a : Arr} {n x m : Nat} {fd : List Nat} {rc : List Bool} (h : RcB a n x a.length fd rc m) : RcA a n fd rc m :=
  ⟨h.len, h.zero, h.fnd, fun e he h1 h2 => by
    obtain ⟨k, hk, rfl⟩ := mem_ar he
    exact h.clo k hk h1 h2 (.inr hk), h.me⟩
theorem RcA.all {a : Arr} {n m : Nat} {rc : List Bool} (h : RcA a n [] rc m) {v : Nat} (r : Reach a v) : rc[v]? = some true := by
  induction r with
  | zero => exact h.zero
  | step _ e ih => exact h.clo _ e ih (by simp)
end PA
/-! P3b: charts, meters, the relaxing of leads, runs. -/
namespace PA
structure Ch (c : List Int) (a : Arr) : Prop where
  n1 : 1 ≤ c.length
  n2 : c.length ≤ 16
  cost : ∀ x ∈ c, 0 ≤ x ∧ x ≤ 1000000000
  m : a.length ≤ 32
  ends : ∀ e ∈ a, e.1 < c.length ∧ e.2 < c.length
  reach : ∀ v, v < c.length → Reach a v
theorem Ch.c0 {c : List Int} {a : Arr} (h : Ch c a) {v : Nat} (hv : v < c.length) : 0 ≤ nth c v ∧ nth c v ≤ 1000000000 := h.cost _ (nth_mem hv)
theorem Ch.ar {c : List Int} {a : Arr} (h : Ch c a) {k : Nat} (hk : k < a.length) : (ar a k).1 < c.length ∧ (ar a k).2 < c.length := h.ends _ (ar_mem hk)
theorem Ch.cc {c : List Int} {a : Arr} (h : Ch c a) (v : Nat) : 0 ≤ nth c v := by
  by_cases hv : v < c.length
  · exact (h.c0 hv).1
  · unfold nth
    rw [List.getD_eq_getElem?_getD, List.getElem?_eq_none (by omega)]
    exact Int.le_refl 0
structure Mt (c : List Int) (a : Arr) (p g : List Int) : Prop where
  pl : p.length = c.length
  gl : g.length = a.length
  gk : ∀ k, k < a.length → nth g k = nth p (ar a k).2 - nth p (ar a k).1 + nth c (ar a k).1
  g0 : ∀ k, k < a.length → 0 ≤ nth g k ∧ nth g k ≤ 1000000000000
  cov : ∀ v, v < c.length → nth c v ≤ nth p v
  p0 : ∀ v, v < c.length → 0 ≤ nth p v ∧ nth p v ≤ 1000000000000
/-! ### relaxing -/
/-- walks' worths are real leads -/
def Real (c Lz : List Int) (a : Arr) (L : List Int) : Prop := ∀ v, v < c.length → ∃ l, W a l ∧ l.head? = some v ∧ (∀ x ∈ l, x < c.length) ∧ nth L v = val (nth c) (nth Lz) l
/-- walks of so many places are paid for -/
def Cov (c Lz : List Int) (a : Arr) (i : Nat) (L : List Int) : Prop := ∀ l v, W a l → (∀ x ∈ l, x < c.length) → l.length ≤ i + 1 → l.head? = some v → val (nth c) (nth Lz) l ≤ nth L v
structure Ls (c Lz : List Int) (a : Arr) (full : Prop) (Lr L : List Int) (k : Nat) (ch : Bool) (b : Nat) : Prop where
  len : L.length = c.length
  low : ∀ v, v < c.length → nth Lz v ≤ nth L v
  hi : ∀ v, v < c.length → nth L v ≤ 1000000100 + 1000000000 * (b : Int)
  same : ch = false → L = Lr ∧ ∀ j, j < k → nth L (ar a j).1 - nth c (ar a j).1 ≤ nth L (ar a j).2
  ful : full → (∀ v, v < c.length → nth Lr v ≤ nth L v) ∧ (∀ j, j < k → nth Lr (ar a j).1 - nth c (ar a j).1 ≤ nth L (ar a j).2) ∧ Real c Lz a L ∧ (Cov c Lz a (c.length - 1) Lr → ch = false)
section
variable {c Lz Lr L : List Int} {a : Arr} {full : Prop} {k b i : Nat} {ch : Bool}
theorem Ls.more (h : Ls c Lz a full Lr L k ch b) : Ls c Lz a full Lr L k ch (b + 1) := ⟨h.len, h.low, fun v hv => by have := h.hi v hv; omega, h.same, h.ful⟩
theorem Ls.none (C : Ch c a) (h : Ls c Lz a full Lr L k ch b) (hk : k < a.length) (hn : nth L (ar a k).1 - nth c (ar a k).1 ≤ nth L (ar a k).2) : Ls c Lz a full Lr L (k + 1) ch b := by
  refine ⟨h.len, h.low, h.hi, fun e => ⟨(h.same e).1, fun j hj => ?_⟩, fun e => ?_⟩
  · by_cases z : j = k
    · subst z; exact hn
    · exact (h.same e).2 j (by omega)
  · obtain ⟨h1, h2, h3, h4⟩ := h.ful e
    refine ⟨h1, fun j hj => ?_, h3, h4⟩
    by_cases z : j = k
    · subst z
      have := h1 _ (C.ar hk).1
      omega
    · exact h2 j (by omega)
theorem Ls.up (C : Ch c a) (h : Ls c Lz a full Lr L k ch b) (hk : k < a.length) (hn : nth L (ar a k).2 < nth L (ar a k).1 - nth c (ar a k).1) :
    Ls c Lz a full Lr (L.set (ar a k).2 (nth L (ar a k).1 - nth c (ar a k).1)) (k + 1) true b := by
  obtain ⟨ht, hh⟩ := C.ar hk
  have hl : (ar a k).2 < L.length := by rw [h.len]; exact hh
  have c0 := (C.c0 ht).1
  have up : ∀ v, nth L v ≤ nth (L.set (ar a k).2 (nth L (ar a k).1 - nth c (ar a k).1)) v := fun v => by
    rw [nth_set hl]
    split
    · rename_i e
      subst e
      omega
    · exact Int.le_refl _
  have new : nth (L.set (ar a k).2 (nth L (ar a k).1 - nth c (ar a k).1)) (ar a k).2 = nth L (ar a k).1 - nth c (ar a k).1 := by rw [nth_set hl, if_pos rfl]
  refine ⟨by rw [List.length_set]; exact h.len, fun v hv => Int.le_trans (h.low v hv) (up v), fun v hv => ?_, fun e => absurd e (by decide), fun e => ?_⟩
  · rw [nth_set hl]
    split
    · have := h.hi _ ht
      omega
    · exact h.hi v hv
  · obtain ⟨h1, h2, h3, h4⟩ := h.ful e
    refine ⟨fun v hv => Int.le_trans (h1 v hv) (up v), fun j hj => ?_, fun v hv => ?_, fun cv => ?_⟩
    · by_cases z : j = k
      · subst z
        have := h1 _ ht
        omega
      · exact Int.le_trans (h2 j (by omega)) (up _)
    · by_cases e : v = (ar a k).2
      · subst e
        obtain ⟨l, w, e1, e2, e3⟩ := h3 _ ht
        cases l with
        | nil => simp at e1
        | cons u r =>
          have eu : u = (ar a k).1 := by simpa using e1
          subst eu
          refine ⟨(ar a k).2 :: (ar a k).1 :: r, .step w (ar_mem hk), rfl, fun x hx => ?_, ?_⟩
          · rcases List.mem_cons.mp hx with z | z
            · rw [z]; exact hh
            · exact e2 x z
          · rw [new, e3]
            rfl
      · rw [nth_set hl, if_neg e]
        exact h3 v hv
    · exfalso
      obtain ⟨l, w, e1, e2, e3⟩ := h3 _ ht
      cases l with
      | nil => simp at e1
      | cons u r =>
        have eu : u = (ar a k).1 := by simpa using e1
        subst eu
        have w2 : W a ((ar a k).2 :: (ar a k).1 :: r) := .step w (ar_mem hk)
        obtain ⟨l', w', f1, f2, nd, f3, f4⟩ := w2.short (c := nth c) (L := nth Lz) C.cc
        have hlt : ∀ x ∈ l', x < c.length := fun x hx => by
          rcases List.mem_cons.mp (f4 x hx) with z | z
          · rw [z]; exact hh
          · exact e2 x z
        have hln := nodup_len _ _ nd hlt
        have n1 := C.n1
        have q := cv l' (ar a k).2 w' hlt (by omega) f1
        have e4 : val (nth c) (nth Lz) ((ar a k).2 :: (ar a k).1 :: r) = val (nth c) (nth Lz) ((ar a k).1 :: r) - nth c (ar a k).1 := rfl
        have := h1 _ hh
        omega
theorem Ls.back (C : Ch c a) (h : Ls c Lz a full Lr L (k + 1) ch b) (hk : k < a.length) (nf : ¬ full) (hn : nth L (ar a k).1 < nth L (ar a k).2 + nth c (ar a k).1) :
    Ls c Lz a full Lr (L.set (ar a k).1 (nth L (ar a k).2 + nth c (ar a k).1)) (k + 1) true (b + 1) := by
  obtain ⟨ht, hh⟩ := C.ar hk
  have hl : (ar a k).1 < L.length := by rw [h.len]; exact ht
  have c0 := C.c0 ht
  refine ⟨by rw [List.length_set]; exact h.len, fun v hv => ?_, fun v hv => ?_, fun e => absurd e (by decide), fun e => absurd e nf⟩
  · rw [nth_set hl]
    split
    · rename_i e
      subst e
      have := h.low _ ht
      omega
    · exact h.low v hv
  · rw [nth_set hl]
    split
    · have := h.hi _ hh
      omega
    · have := h.hi v hv
      omega
/-- between two rounds -/
structure Lo (c Lz : List Int) (a : Arr) (full : Prop) (L : List Int) (i b : Nat) : Prop where
  len : L.length = c.length
  low : ∀ v, v < c.length → nth Lz v ≤ nth L v
  hi : ∀ v, v < c.length → nth L v ≤ 1000000100 + 1000000000 * (b : Int)
  ful : full → Real c Lz a L ∧ Cov c Lz a i L ∧ i < c.length
theorem Lo.start (C : Ch c a) (hl : Lz.length = c.length) (hb : ∀ v, v < c.length → nth Lz v ≤ 1000000100) : Lo c Lz a full Lz 0 0 :=
  ⟨hl, fun v _ => Int.le_refl _, fun v hv => by have := hb v hv; omega, fun _ => ⟨fun v hv => ⟨[v], .one v, rfl, fun x hx => by rw [List.mem_singleton.mp hx]; exact hv, rfl⟩, fun l v w hx hln hd => by
    cases l with
    | nil => simp at hd
    | cons u r =>
      cases r with
      | nil =>
        have eu : u = v := by simpa using hd
        subst eu
        exact Int.le_refl _
      | cons y r => simp at hln, C.n1⟩⟩
theorem Lo.round (h : Lo c Lz a full L i b) : Ls c Lz a full L L 0 false b :=
  ⟨h.len, h.low, h.hi, fun _ => ⟨rfl, fun j hj => absurd hj (Nat.not_lt_zero _)⟩, fun e => ⟨fun _ _ => Int.le_refl _, fun j hj => absurd hj (Nat.not_lt_zero _), (h.ful e).1, fun _ => rfl⟩⟩
theorem Ls.next (C : Ch c a) (o : Lo c Lz a full Lr i b) {b' : Nat} (h : Ls c Lz a full Lr L a.length true b') : Lo c Lz a full L (i + 1) b' :=
  ⟨h.len, h.low, h.hi, fun e => by
    obtain ⟨h1, h2, h3, h4⟩ := h.ful e
    obtain ⟨o1, o2, o3⟩ := o.ful e
    refine ⟨h3, fun l v w hx hln hd => ?_, ?_⟩
    · cases w with
      | one u =>
        have eu : u = v := by simpa using hd
        subst eu
        have := o2 [u] u (.one u) hx (by simp) rfl
        exact Int.le_trans this (h1 u (hx u List.mem_cons_self))
      | @step u y r w e =>
        have ey : y = v := by simpa using hd
        subst ey
        obtain ⟨k, hk, ek⟩ := mem_ar e
        have q := o2 (u :: r) u w (fun x z => hx x (List.mem_cons_of_mem _ z)) (by simp at hln ⊢; omega) rfl
        have q2 := h2 k hk
        rw [ek] at q2
        have e4 : val (nth c) (nth Lz) (y :: u :: r) = val (nth c) (nth Lz) (u :: r) - nth c u := rfl
        have q3 : nth Lr u - nth c u ≤ nth L y := q2
        omega
    · by_cases z : i + 1 < c.length
      · exact z
      · exfalso
        have ei : i = c.length - 1 := by omega
        have := h4 (by rw [← ei]; exact o2)
        exact absurd this (by decide)⟩
/-- a round without a change ends it -/
theorem Ls.fin {b' : Nat} (h : Ls c Lz a full Lr L a.length false b') : ∀ k, k < a.length → nth L (ar a k).1 - nth c (ar a k).1 ≤ nth L (ar a k).2 := (h.same rfl).2
end
/-- the leads that are found -/
structure Lead (c Lz : List Int) (a : Arr) (L : List Int) : Prop where
  len : L.length = c.length
  low : ∀ v, v < c.length → nth Lz v ≤ nth L v
  hi : ∀ v, v < c.length → nth L v ≤ 600000000000
  arr : ∀ k, k < a.length → nth L (ar a k).1 - nth c (ar a k).1 ≤ nth L (ar a k).2
/-! ### runs -/
def IsRun (a : Arr) : Nat → List Nat → Prop
  | _, [] => True
  | v, k :: r => k < a.length ∧ (ar a k).1 = v ∧ IsRun a (ar a k).2 r
def plc (a : Arr) (run : List Nat) (i : Nat) : Nat := (0 :: run.map fun k => (ar a k).2).getD i 0
def rn (run : List Nat) (i : Nat) : Nat := run.getD i 0
theorem rn_get {run : List Nat} {i : Nat} (h : i < run.length) : run[i]? = some (rn run i) := by
  unfold rn
  rw [List.getD_eq_getElem?_getD, List.getElem?_eq_getElem h]
  rfl
theorem plc_zero (a : Arr) (run : List Nat) : plc a run 0 = 0 := rfl
theorem plc_succ {a : Arr} {run : List Nat} {i : Nat} (h : i < run.length) : plc a run (i + 1) = (ar a (rn run i)).2 := by
  unfold plc
  rw [List.getD_eq_getElem?_getD, List.getElem?_cons_succ, List.getElem?_map, rn_get h]
  rfl
theorem IsRun.at {a : Arr} : ∀ {run : List Nat} {v i : Nat}, IsRun a v run → i < run.length → rn run i < a.length ∧ (ar a (rn run i)).1 = (v :: run.map fun k => (ar a k).2).getD i 0
  | k :: r, v, 0, h, _ => ⟨h.1, h.2.1⟩
  | k :: r, v, i + 1, h, hi => by
    have := IsRun.at (i := i) h.2.2 (by simpa using hi)
    exact this
theorem IsRun.lt {a : Arr} {run : List Nat} (h : IsRun a 0 run) {i : Nat} (hi : i < run.length) : rn run i < a.length := (h.at hi).1
theorem IsRun.tl {a : Arr} {run : List Nat} (h : IsRun a 0 run) {i : Nat} (hi : i < run.length) : (ar a (rn run i)).1 = plc a run i := (h.at hi).2
theorem plc_lt {c : List Int} {a : Arr} (C : Ch c a) {run : List Nat} (h : IsRun a 0 run) {i : Nat} (hi : i ≤ run.length) : plc a run i < c.length := by
  cases i with
  | zero => exact C.n1
  | succ i =>
    rw [plc_succ (by omega)]
    exact (C.ar (h.lt (by omega))).2
theorem IsRun.snoc {a : Arr} : ∀ {run : List Nat} {v k : Nat}, IsRun a v run → k < a.length → (ar a k).1 = (v :: run.map fun k => (ar a k).2).getD run.length 0 → IsRun a v (run ++ [k])
  | [], v, k, _, hk, e => ⟨hk, e, True.intro⟩
  | j :: r, v, k, h, hk, e => ⟨h.1, h.2.1, IsRun.snoc h.2.2 hk e⟩
theorem IsRun.take {a : Arr} : ∀ {run : List Nat} {v : Nat} (n : Nat), IsRun a v run → IsRun a v (run.take n)
  | [], _, n, _ => by simp [IsRun]
  | k :: r, v, 0, _ => True.intro
  | k :: r, v, n + 1, h => ⟨h.1, h.2.1, IsRun.take n h.2.2⟩
/-- what is used on the first i places -/
def T (c : List Int) (a : Arr) (run : List Nat) : Nat → Int
  | 0 => 0
  | i + 1 => T c a run i + nth c (plc a run i)
abbrev U (c : List Int) (a : Arr) (run : List Nat) (i : Nat) : Int := T c a run (i + 1)
/-- what is charged on the first i arrows -/
def Pd (f : Int) (g : List Int) (run : List Nat) : Nat → Int
  | 0 => f
  | i + 1 => Pd f g run i + nth g (rn run i)
section
variable {c p g : List Int} {a : Arr} {run : List Nat}
theorem T_le (C : Ch c a) (i : Nat) : T c a run i ≤ T c a run (i + 1) := by
  have := C.cc (plc a run i)
  show T c a run i ≤ T c a run i + _
  omega
theorem T_mono (C : Ch c a) {i j : Nat} (h : i ≤ j) : T c a run i ≤ T c a run j := by
  induction h with
  | refl => exact Int.le_refl _
  | step _ ih => exact Int.le_trans ih (T_le C _)
theorem T_0 (C : Ch c a) (i : Nat) : 0 ≤ T c a run i := T_mono C (Nat.zero_le i)
theorem T_hi (C : Ch c a) (h : IsRun a 0 run) : ∀ {i : Nat}, i ≤ run.length + 1 → T c a run i ≤ 1000000000 * (i : Int)
  | 0, _ => Int.le_refl 0
  | i + 1, hi => by
    have := T_hi C h (i := i) (by omega)
    have := (C.c0 (plc_lt C h (i := i) (by omega))).2
    show T c a run i + _ ≤ _
    omega
theorem Pd_0 (M : Mt c a p g) (h : IsRun a 0 run) {f : Int} (hf : 0 ≤ f) : ∀ {i : Nat}, i ≤ run.length → 0 ≤ Pd f g run i
  | 0, _ => hf
  | i + 1, hi => by
    have := Pd_0 M h hf (i := i) (by omega)
    have := (M.g0 _ (h.lt (i := i) (by omega))).1
    show 0 ≤ Pd f g run i + _
    omega
theorem Pd_hi (M : Mt c a p g) (h : IsRun a 0 run) {f : Int} (hf : f ≤ 1000000000000) : ∀ {i : Nat}, i ≤ run.length → Pd f g run i ≤ 1000000000000 * ((i : Int) + 1)
  | 0, _ => by show f ≤ _; omega
  | i + 1, hi => by
    have := Pd_hi M h hf (i := i) (by omega)
    have := (M.g0 _ (h.lt (i := i) (by omega))).2
    show Pd f g run i + _ ≤ _
    omega
theorem U_eq (M : Mt c a p g) (h : IsRun a 0 run) : ∀ {i : Nat}, i ≤ run.length → U c a run i = Pd (nth p 0) g run i - nth p (plc a run i) + nth c (plc a run i)
  | 0, _ => by
    show 0 + nth c 0 = nth p 0 - nth p 0 + nth c 0
    omega
  | i + 1, hi => by
    have ih := U_eq M h (i := i) (by omega)
    have e1 : U c a run (i + 1) = U c a run i + nth c (plc a run (i + 1)) := rfl
    have e2 : Pd (nth p 0) g run (i + 1) = Pd (nth p 0) g run i + nth g (rn run i) := rfl
    have e3 := M.gk _ (h.lt (i := i) (by omega))
    have e4 := plc_succ (a := a) (run := run) (i := i) (by omega)
    have e5 := h.tl (i := i) (by omega)
    rw [e5, ← e4] at e3
    omega
theorem U_le (C : Ch c a) (M : Mt c a p g) (h : IsRun a 0 run) {i : Nat} (hi : i ≤ run.length) : U c a run i ≤ Pd (nth p 0) g run i := by
  have := U_eq M h hi
  have := M.cov _ (plc_lt C h hi)
  omega
/-! ### plain counting -/
structure PlainR (c : List Int) (a : Arr) (run : List Nat) (lim : Int) (k : Nat) : Prop where
  le : k ≤ run.length + 1
  ok : ∀ i, i < k → U c a run i ≤ lim
  stop : k ≤ run.length → lim < U c a run k
theorem PlainR.uniq {lim : Int} {k j : Nat} (h : PlainR c a run lim k) (h' : PlainR c a run lim j) : k = j := by
  rcases Nat.lt_trichotomy k j with z | z | z
  · have := h.stop (by have := h'.le; omega)
    have := h'.ok k z
    omega
  · exact z
  · have := h'.stop (by have := h.le; omega)
    have := h.ok j z
    omega
/-- counting the fitting ones of a rising row -/
theorem filt_len : ∀ {n : Nat} {f : Nat → Int} {lim : Int}, (∀ i, f i ≤ f (i + 1)) → ∀ {k : Nat}, (((List.range n).map fun i => f (k + i)).filter fun x => decide (x ≤ lim)).length ≤ n ∧
    (∀ i, i < (((List.range n).map fun i => f (k + i)).filter fun x => decide (x ≤ lim)).length → f (k + i) ≤ lim) ∧ ((((List.range n).map fun i => f (k + i)).filter fun x => decide (x ≤ lim)).length < n → lim < f (k + (((List.range n).map fun i => f (k + i)).filter fun x => decide (x ≤ lim)).length))
  | 0, f, lim, hf, k => by
    refine ⟨Nat.le_refl _, fun i hi => ?_, fun h => ?_⟩
    · exact absurd (show i < 0 from hi) (Nat.not_lt_zero _)
    · exact absurd (show 0 < 0 from h) (Nat.lt_irrefl _)
  | n + 1, f, lim, hf, k => by
    have ih := filt_len (n := n) (f := f) (lim := lim) hf (k := k + 1)
    have e0 : (List.range n).map ((fun i => f (k + i)) ∘ Nat.succ) = (List.range n).map fun i => f (k + 1 + i) := List.map_congr_left fun i _ => by
      show f (k + (i + 1)) = f (k + 1 + i)
      rw [show k + (i + 1) = k + 1 + i by omega]
    rw [List.range_succ_eq_map, List.map_cons, List.map_map, e0, List.filter_cons]
    by_cases h : f (k + 0) ≤ lim
    · rw [if_pos (decide_eq_true h), List.length_cons]
      refine ⟨by omega, fun i hi => ?_, fun hl => ?_⟩
      · cases i with
        | zero => exact h
        | succ i =>
          have := ih.2.1 i (by omega)
          rw [show k + (i + 1) = k + 1 + i by omega]
          exact this
      · have := ih.2.2 (by omega)
        rw [show ∀ x, k + (x + 1) = k + 1 + x by omega]
        exact this
    · rw [if_neg (by simpa using h)]
      have big : ∀ i, lim < f (k + 1 + i) := fun i => by
        induction i with
        | zero =>
          have := hf (k + 0)
          show lim < f (k + 1)
          rw [show k + 0 + 1 = k + 1 by omega] at this
          omega
        | succ i q =>
          have := hf (k + 1 + i)
          rw [show k + 1 + i + 1 = k + 1 + (i + 1) by omega] at this
          omega
      have ez : ((List.range n).map fun i => f (k + 1 + i)).filter (fun x => decide (x ≤ lim)) = [] := by
        rw [List.filter_eq_nil_iff]
        intro x hx
        obtain ⟨i, _, rfl⟩ := List.mem_map.mp hx
        have := big i
        simp
        omega
      rw [ez]
      exact ⟨Nat.zero_le _, fun i hi => absurd (show i < 0 from hi) (Nat.not_lt_zero _), fun _ => by simpa using h⟩
theorem plain_filt (C : Ch c a) {lim : Int} : PlainR c a run lim (((List.range (run.length + 1)).map fun i => U c a run i).filter fun x => decide (x ≤ lim)).length := by
  have q := filt_len (n := run.length + 1) (f := fun i => U c a run i) (lim := lim) (fun i => T_le C (i + 1)) (k := 0)
  have e : (List.range (run.length + 1)).map (fun i => (fun i => U c a run i) (0 + i)) = (List.range (run.length + 1)).map fun i => U c a run i := List.map_congr_left fun i _ => by
    show U c a run (0 + i) = U c a run i
    rw [Nat.zero_add]
  rw [e] at q
  refine ⟨q.1, fun i hi => ?_, fun hl => ?_⟩
  · have := q.2.1 i hi
    rw [Nat.zero_add] at this
    exact this
  · have := q.2.2 (by omega)
    rw [Nat.zero_add] at this
    exact this
/-! ### the one-paced code -/
structure OneR (c : List Int) (a : Arr) (g : List Int) (f : Int) (run : List Nat) (lim : Int) (pl : Nat) (un : Int) (stp : Bool) : Prop where
  or : (lim < f ∧ pl = 0 ∧ un = lim ∧ stp = true) ∨ (f ≤ lim ∧ ∃ j, j ≤ run.length ∧ pl = j + 1 ∧ un = lim - U c a run j ∧ (∀ i, i ≤ j → Pd f g run i ≤ lim) ∧ ((j < run.length ∧ lim < Pd f g run (j + 1) ∧ stp = true) ∨ (j = run.length ∧ stp = false)))
theorem OneR.uniq {f lim un un' : Int} {pl pl' : Nat} {s s' : Bool} (h : OneR c a g f run lim pl un s) (h' : OneR c a g f run lim pl' un' s') : pl = pl' ∧ un = un' ∧ s = s' := by
  rcases h.or with ⟨h1, rfl, rfl, rfl⟩ | ⟨h1, j, hj, rfl, rfl, h2, h3⟩
  · rcases h'.or with ⟨k1, rfl, rfl, rfl⟩ | ⟨k1, _⟩
    · exact ⟨rfl, rfl, rfl⟩
    · omega
  · rcases h'.or with ⟨k1, _⟩ | ⟨k1, i, hi, rfl, rfl, k2, k3⟩
    · omega
    · have e : j = i := by
        rcases Nat.lt_trichotomy j i with z | z | z
        · exfalso
          rcases h3 with ⟨_, q, _⟩ | ⟨q, _⟩
          · have := k2 (j + 1) z
            omega
          · omega
        · exact z
        · exfalso
          rcases k3 with ⟨_, q, _⟩ | ⟨q, _⟩
          · have := h2 (i + 1) z
            omega
          · omega
      subst e
      refine ⟨rfl, rfl, ?_⟩
      rcases h3 with ⟨z, _, rfl⟩ | ⟨z, rfl⟩
      · rcases k3 with ⟨_, _, rfl⟩ | ⟨z', _⟩
        · rfl
        · omega
      · rcases k3 with ⟨z', _, _⟩ | ⟨_, rfl⟩
        · omega
        · rfl
/-- what the law asks of it -/
theorem OneR.good (C : Ch c a) (M : Mt c a p g) (h : IsRun a 0 run) {lim un : Int} {pl k : Nat} {s : Bool} (hl : 0 ≤ lim) (o : OneR c a g (nth p 0) run lim pl un s) (pr : PlainR c a run lim k) :
    pl ≤ run.length + 1 ∧ 0 ≤ un ∧ un ≤ lim ∧ pl ≤ k ∧ (pl = 0 → un = lim) ∧ (∀ j, pl = j + 1 → j ≤ run.length ∧ un + U c a run j = lim) ∧ (s = false → pl = run.length + 1) := by
  rcases o.or with ⟨h1, rfl, rfl, rfl⟩ | ⟨h1, j, hj, rfl, rfl, h2, h3⟩
  · exact ⟨Nat.zero_le _, hl, Int.le_refl _, Nat.zero_le _, fun _ => rfl, fun j e => (by cases e), fun e => absurd e (by decide)⟩
  · have u0 : 0 ≤ U c a run j := T_0 C (j + 1)
    have ul := U_le C M h hj
    have pj := h2 j (Nat.le_refl _)
    refine ⟨by omega, by omega, by omega, ?_, fun e => (by cases e), fun i e => ?_, fun e => ?_⟩
    · by_cases z : j + 1 ≤ k
      · exact z
      · exfalso
        have hk : k ≤ run.length := by omega
        have q1 := pr.stop hk
        have q2 : U c a run k ≤ U c a run j := T_mono C (by omega)
        omega
    · have ei : j = i := by omega
      subst ei
      exact ⟨hj, by omega⟩
    · rcases h3 with ⟨_, _, rfl⟩ | ⟨rfl, _⟩
      · exact absurd e (by decide)
      · rfl
end
end PA
/-! P4: how the data lie, what common calls come to, the promises. -/
namespace PA
open PySem PyProof.Rows L2
section
variable {K : PySem.W.Frag} {p : Wd} {F F' F1 F2 H H' : Hp} {q a b : Addr} {o u : HO} {xs ys : List V} {σ : L2.St} {ta tb tc te tl : TE} {t : TA} {tt tu : TT} {v x y z : V} {P P' : V → Hp → Prop} {D : Ends} {t1 t2 ts : TS} {n : Nat} {g : TG} {ns ms : List Int} {i j k : Int}
def IT (K : PySem.W.Frag) (F : Hp) (a : Addr) (ns : List Int) : Prop := SqT K F a (ns.map V.int)
def IL (K : PySem.W.Frag) (F : Hp) (a : Addr) (ns : List Int) : Prop := SqL K F a (ns.map V.int)
theorem IT.mono (s : Same F F') (h : IT K F a ns) : IT K F' a ns := same_t s h
theorem IL.mono (s : Same F F') (h : IL K F a ns) : IL K F' a ns := s.seq h
theorem IT.s (h : IT K F a ns) : Sq K p F a (ns.map V.int) := .t h
theorem IL.s (h : IL K F a ns) : Sq K p F a (ns.map V.int) := .l h
theorem at_int {m : Nat} (h : m < ns.length) : atI (ns.map V.int) (m : Int) = some (.int (nth ns m)) := atI_nat (by rw [List.getElem?_map, nth_get h]; rfl)
theorem at_get {m : Nat} (h : xs[m]? = some v) : atI xs (m : Int) = some v := atI_nat h
/-- arrows: a tuple (a list) of pairs -/
def prs (arr : Arr) : List (V × V) := arr.map fun e => (V.int (e.1 : Int), V.int (e.2 : Int))
theorem prs_get {arr : Arr} {m : Nat} (h : m < arr.length) : (prs arr)[m]? = some (V.int ((ar arr m).1 : Int), V.int ((ar arr m).2 : Int)) := by
  unfold prs
  rw [List.getElem?_map, ar_get h]
  rfl
theorem prs_len {arr : Arr} : (prs arr).length = arr.length := List.length_map ..
def AT (K : PySem.W.Frag) (F : Hp) (a : Addr) (arr : Arr) : Prop := ∃ as : List Addr, SqT K F a (as.map V.ref) ∧ PairsAt K F as (prs arr)
def AL (K : PySem.W.Frag) (F : Hp) (a : Addr) (arr : Arr) : Prop := ∃ as : List Addr, SqL K F a (as.map V.ref) ∧ PairsAt K F as (prs arr)
theorem AT.mono {arr : Arr} (s : Same F F') (h : AT K F a arr) : AT K F' a arr := let ⟨as, h1, h2⟩ := h; ⟨as, same_t s h1, h2.mono s⟩
theorem AL.mono {arr : Arr} (s : Same F F') (h : AL K F a arr) : AL K F' a arr := let ⟨as, h1, h2⟩ := h; ⟨as, s.seq h1, h2.mono s⟩
theorem pair_at {arr : Arr} {as : List Addr} {m : Nat} (h : PairsAt K F as (prs arr)) (hm : m < arr.length) : ∃ b, as[m]? = some b ∧ SqT K F b [V.int ((ar arr m).1 : Int), V.int ((ar arr m).2 : Int)] := by
  have hl : m < as.length := by rw [h.1, prs_len]; exact hm
  obtain ⟨pr, e1, e2⟩ := h.2 m as[m] (List.getElem?_eq_getElem hl)
  rw [prs_get hm] at e1
  obtain rfl := Option.some.inj e1
  exact ⟨as[m], List.getElem?_eq_getElem hl, e2⟩
theorem AT.len {arr : Arr} (h : AT K F a arr) : ∃ as : List Addr, SqT K F a (as.map V.ref) ∧ (as.map V.ref).length = arr.length := let ⟨as, h1, h2⟩ := h; ⟨as, h1, by rw [List.length_map, h2.1, prs_len]⟩
theorem AL.len {arr : Arr} (h : AL K F a arr) : ∃ as : List Addr, SqL K F a (as.map V.ref) ∧ (as.map V.ref).length = arr.length := let ⟨as, h1, h2⟩ := h; ⟨as, h1, by rw [List.length_map, h2.1, prs_len]⟩
/-- arrows[k][0], arrows[k][1] -/
theorem ev_a0 {arr : Arr} {m : Nat} (ha : Ev p ta σ F (.ref a)) (hb : Ev p tb σ F (.int (m : Int))) (h : AT K F a arr) (hm : m < arr.length) : Ev p (tOp (rIx K) (tOp (rIx K) ta tb) (tC (.int 0))) σ F (.int ((ar arr m).1 : Int)) := by
  obtain ⟨as, h1, h2⟩ := h
  obtain ⟨b, e1, e2⟩ := pair_at h2 hm
  exact ev_ix (ev_ix ha hb (.t h1) (at_get (by rw [List.getElem?_map, e1]; rfl))) ev_c (.t e2) rfl
theorem ev_a1 {arr : Arr} {m : Nat} (ha : Ev p ta σ F (.ref a)) (hb : Ev p tb σ F (.int (m : Int))) (h : AT K F a arr) (hm : m < arr.length) : Ev p (tOp (rIx K) (tOp (rIx K) ta tb) (tC (.int 1))) σ F (.int ((ar arr m).2 : Int)) := by
  obtain ⟨as, h1, h2⟩ := h
  obtain ⟨b, e1, e2⟩ := pair_at h2 hm
  exact ev_ix (ev_ix ha hb (.t h1) (at_get (by rw [List.getElem?_map, e1]; rfl))) ev_c (.t e2) rfl
/-- the pair itself -/
theorem ev_ap {arr : Arr} {m : Nat} (ha : Ev p ta σ F (.ref a)) (hb : Ev p tb σ F (.int (m : Int))) (h : AT K F a arr) (hm : m < arr.length) : EvP p (tOp (rIx K) ta tb) σ F (fun v F2 => ∃ b, v = .ref b ∧ SqT K F2 b [V.int ((ar arr m).1 : Int), V.int ((ar arr m).2 : Int)]) := by
  obtain ⟨as, h1, h2⟩ := h
  obtain ⟨b, e1, e2⟩ := pair_at h2 hm
  exact (ev_ix ha hb (.t h1) (at_get (by rw [List.getElem?_map, e1]; rfl))).toPP fun F2 s => ⟨b, rfl, same_t s e2⟩
theorem ev_ii {m : Nat} (ha : Ev p ta σ F (.ref a)) (hb : Ev p tb σ F (.int (m : Int))) (h : Sq K p F a (ns.map V.int)) (hm : m < ns.length) : Ev p (tOp (rIx K) ta tb) σ F (.int (nth ns m)) := ev_ix ha hb h (at_int hm)
/-! ### attributes -/
theorem ev_fld {C dx : Addr} {fs : List (Str × V)} {f : Str} (ha : Ev p ta σ F (.ref a)) (h : F a = some (.ins C dx fs)) (c : Cls K C) (na : NoAttr K C f) (hl : fs.lookup f = some v) : Ev p (tFld K ta f) σ F v := fun F1 H e at1 Q q =>
  ha F1 H e at1 _ fun H2 a2 => ⟨a, C, dx, fs, v, rfl, a2.get (e _ _ h), c, na, hl, q H2 a2⟩
theorem st_fld {C dx x : Addr} {fs : List (Str × V)} {f : Str} (at0 : At (.own p x (.ins C dx fs)) F H) (hv : EvP (.own p x (.ins C dx fs)) te σ F P) (ha : Ev (.own p x (.ins C dx fs)) ta σ F (.ref x)) (c : Cls K C) (na : NoAttr K C f) (hl : fs.length < 1000)
    (k : ∀ v F1 H1, Same F F1 → At (.own p x (.ins C dx (putF f v fs))) F1 H1 → P v F1 → D.nx σ H1) : sFld K ta te f D σ H := hv F H (Same.refl _) at0 _ fun v F1 H1 e1 a1 po => ha F1 H1 e1 a1 _ fun H2 a2 => ⟨x, C, dx, fs, rfl, a2.mine_at, c, na, hl, k v F1 _ e1 a2.put po⟩
/-! ### built-ins -/
theorem ev_len (ha : Ev p ta σ F (.ref a)) (h : Sq K p F a xs) : Ev p (tCB (rLen K) (tCons ta tNil)) σ F (.int (xs.length : Int)) := ev_cbV (ea_cons ha ea_nil) fun F1 H e at1 Q q => ⟨_, xs.length, rfl, by
  rcases at1.s (h.mono e) with h | h
  · exact .inl ⟨xs, h, rfl⟩
  · exact .inr ⟨xs, h, rfl⟩, q⟩
theorem ev_int (ha : Ev p ta σ F (.int i)) : Ev p (tCB rIntB (tCons ta tNil)) σ F (.int i) := ev_cbV (ea_cons ha ea_nil) fun F1 H e at1 Q q => .inl ⟨i, rfl, q⟩
theorem ev_intP {Pi : Int → Prop} (ha : EvP p ta σ F (fun v _ => ∃ i, v = .int i ∧ Pi i)) : EvP p (tCB rIntB (tCons ta tNil)) σ F (fun v _ => ∃ i, v = .int i ∧ Pi i) := ev_cbP (eap_one ha) fun vs F1 H e ⟨x, ev, i, ex, pi⟩ at1 Q q => by
  subst ev ex
  exact .inl ⟨i, rfl, q _ F1 H (Same.refl _) at1 ⟨i, rfl, pi⟩⟩
theorem ev_abs (ha : Ev p ta σ F (.int i)) : Ev p (tCB rAbs (tCons ta tNil)) σ F (.int (if i < 0 then -i else i)) := ev_cbV (ea_cons ha ea_nil) fun F1 H e at1 Q q => ⟨i, rfl, q⟩
theorem ev_max2 (ha : Ev p ta σ F (.int i)) (hb : Ev p tb σ F (.int j)) : Ev p (tCB rMax2 (tCons ta (tCons tb tNil))) σ F (.int (if j > i then j else i)) := ev_cbV (ea_cons ha (ea_cons hb ea_nil)) fun F1 H e at1 Q q => ⟨i, j, rfl, q⟩
theorem ev_lt (ha : Ev p ta σ F (.int i)) (hb : Ev p tb σ F (.int j)) : Ev p (tOp (rI0 fun i j => .bl (decide (i < j))) ta tb) σ F (.bl (decide (i < j))) := ev_I0 ha hb
theorem ev_le (ha : Ev p ta σ F (.int i)) (hb : Ev p tb σ F (.int j)) : Ev p (tOp (rI0 fun i j => .bl (decide (i ≤ j))) ta tb) σ F (.bl (decide (i ≤ j))) := ev_I0 ha hb
theorem ev_gt (ha : Ev p ta σ F (.int i)) (hb : Ev p tb σ F (.int j)) : Ev p (tOp (rI0 fun i j => .bl (decide (j < i))) ta tb) σ F (.bl (decide (j < i))) := ev_I0 ha hb
theorem ev_ge (ha : Ev p ta σ F (.int i)) (hb : Ev p tb σ F (.int j)) : Ev p (tOp (rI0 fun i j => .bl (decide (j ≤ i))) ta tb) σ F (.bl (decide (j ≤ i))) := ev_I0 ha hb
theorem ev_add (ha : Ev p ta σ F (.int i)) (hb : Ev p tb σ F (.int j)) : Ev p (tOp (rI0 fun i j => .int (i + j)) ta tb) σ F (.int (i + j)) := ev_I0 ha hb
theorem ev_sub (ha : Ev p ta σ F (.int i)) (hb : Ev p tb σ F (.int j)) : Ev p (tOp (rI0 fun i j => .int (i - j)) ta tb) σ F (.int (i - j)) := ev_I0 ha hb
theorem ev_mul (ha : Ev p ta σ F (.int i)) (hb : Ev p tb σ F (.int j)) (hc : CMul i j) : Ev p (tOp (rI CMul fun i j => .int (i * j)) ta tb) σ F (.int (i * j)) := ev_I ha hb hc
theorem ev_mod (ha : Ev p ta σ F (.int i)) (hb : Ev p tb σ F (.int j)) (hc : 0 < j) : Ev p (tOp (rI (fun _ j => 0 < j) fun i j => .int (i % j)) ta tb) σ F (.int (i % j)) := ev_I ha hb hc
theorem ev_fdiv (ha : Ev p ta σ F (.int i)) (hb : Ev p tb σ F (.int j)) (hc : CDiv i j) : Ev p (tOp (rI CDiv fun i j => .int (i / j)) ta tb) σ F (.int (i / j)) := ev_I ha hb hc
theorem ev_pow (ha : Ev p ta σ F (.int i)) (hb : Ev p tb σ F (.int j)) (hc : CPow i j) : Ev p (tOp (rI CPow fun i j => .int (i ^ j.toNat)) ta tb) σ F (.int (i ^ j.toNat)) := ev_I ha hb hc
/-- an int is a whole number -/
theorem ev_isInt (ha : Ev p ta σ F (.int i)) : Ev p (tCB (rIsi K) (tCons ta (tCons (tC (.ty "int")) tNil))) σ F (.bl true) := ev_cbV (ea_cons ha (ea_cons ev_c ea_nil)) fun F1 H e at1 Q q => ⟨_, _, _, _, true, rfl, .ty _, .base (.int i), kit_ty (by decide +kernel), q⟩
theorem ev_isBool (ha : Ev p ta σ F (.int i)) : Ev p (tCB (rIsi K) (tCons ta (tCons (tC (.ty "bool")) tNil))) σ F (.bl false) := ev_cbV (ea_cons ha (ea_cons ev_c ea_nil)) fun F1 H e at1 Q q => ⟨_, _, _, _, false, rfl, .ty _, .base (.int i), kit_ty (by decide +kernel), q⟩
theorem ty_lst (h : SqL K H a xs) : TyX K H (.ref a) (.type "list") := by
  rcases h with (h | ⟨o, h⟩) | ⟨o, _, _, h1, h2, _⟩
  · exact .base (.lst h)
  · exact .base (.frz h)
  · exact .kList h1 h2
theorem ty_tup (h : SqT K H a xs) : TyX K H (.ref a) (.type "tuple") := by
  rcases h with (h | ⟨o, h⟩) | ⟨o, _, _, h1, h2, _⟩
  · exact .base (.tup h)
  · exact .fTuple h
  · exact .kTuple h1 h2
theorem ev_isTup (ha : Ev p ta σ F (.ref a)) (h : SqT K F a xs) : Ev p (tCB (rIsi K) (tCons ta (tCons (tC (.ty "tuple")) tNil))) σ F (.bl true) := ev_cbV (ea_cons ha (ea_cons ev_c ea_nil)) fun F1 H e at1 Q q => ⟨_, _, _, _, true, rfl, .ty _, ty_tup (at1.t (same_t e h)), kit_ty (by decide +kernel), q⟩
/-- isinstance(x, (list, tuple)) -/
theorem ev_isRow (ha : Ev p ta σ F (.ref a)) (h : SqL K F a xs ∨ SqT K F a xs) : Ev p (tCB (rIsiT K) (tCons ta (tCons (tTup (tCons (tC (.ty "list")) (tCons (tC (.ty "tuple")) tNil))) tNil))) σ F (.bl true) := fun F1 H e at1 Q q =>
  ha F1 H e at1 _ fun H2 a2 => ⟨by show 2 ≤ sizeLine; decide, fun t ht => by
    have a3 := a2.new0 (o := .tup [.ty "list", .ty "tuple"]) ht
    rcases h with h | h
    · exact ⟨.ref a, t, [.ty "list", .ty "tuple"], .type "list", [.type "list", .type "tuple"], true, rfl, upd_same, .cons (.ty _) (.cons (.ty _) .nil), ty_lst (a3.l (e.seq h)), kitAny_cons (b := true) (kit_ty (by decide +kernel)) (fun z => absurd z (by decide)) fun _ => rfl, q _ a3⟩
    · exact ⟨.ref a, t, [.ty "list", .ty "tuple"], .type "tuple", [.type "list", .type "tuple"], true, rfl, upd_same, .cons (.ty _) (.cons (.ty _) .nil), ty_tup (a3.t (same_t e h)), kitAny_cons (b := false) (kit_ty (by decide +kernel)) (fun _ => kitAny_cons (b := true) (kit_ty (by decide +kernel)) (fun z => absurd z (by decide)) fun _ => rfl) (fun z => absurd z (by decide)), q _ a3⟩⟩
/-- tuple(x), list(x) of a thing known -/
theorem ev_tupL (ha : Ev p ta σ F (.ref a)) (h : SqL K F a xs) : EvP p (tCB (rTupOf K) (tCons ta tNil)) σ F (NewP F (.tup xs)) := ev_cb (ea_cons ha ea_nil) fun F1 H e at1 Q q => ⟨a, xs, rfl, .inl ⟨at1.l (e.seq h), fun l hl => q _ _ _ (same_new (at1.free hl)) (at1.new hl) ⟨l, rfl, e.free (at1.free hl), upd_same⟩⟩⟩
theorem ev_tupT (ha : Ev p ta σ F (.ref a)) (h : SqT K F a xs) : Ev p (tCB (rTupOf K) (tCons ta tNil)) σ F (.ref a) := ev_cbV (ea_cons ha ea_nil) fun F1 H e at1 Q q => ⟨a, xs, rfl, .inr ⟨at1.t (same_t e h), q⟩⟩
theorem ev_tupA (ha : Ev p ta σ F (.ref a)) (h : SqL K F a xs ∨ SqT K F a xs) : EvP p (tCB (rTupOf K) (tCons ta tNil)) σ F (fun v F2 => ∃ b, v = .ref b ∧ SqT K F2 b xs) := by
  rcases h with h | h
  · exact (ev_tupL ha h).imp fun v F2 e ⟨b, e1, _, e2⟩ => ⟨b, e1, .of e2⟩
  · exact (ev_tupT ha h).toPP fun F2 e => ⟨a, rfl, same_t e h⟩
/-- tuple(e) of a list that e makes -/
theorem ev_tupM {Pt : List V → Hp → Prop} (ha : EvP p ta σ F (fun v F1 => ∃ a xs, v = .ref a ∧ SqL K F1 a xs ∧ Pt xs F1)) : EvP p (tCB (rTupOf K) (tCons ta tNil)) σ F (fun v F2 => ∃ q xs F1, v = .ref q ∧ F q = none ∧ F1 q = none ∧ Same F F1 ∧ F2 = upd F1 q (.tup xs) ∧ Pt xs F1) := ev_cbP (eap_one ha) fun vs F1 H e ⟨x, ev, a, xs, ex, h, pt⟩ at1 Q q => by
  subst ev ex
  exact ⟨a, xs, rfl, .inl ⟨at1.l h, fun l hl => q _ _ _ (same_new (at1.free hl)) (at1.new hl) ⟨l, xs, F1, rfl, e.free (at1.free hl), at1.free hl, e, rfl, pt⟩⟩⟩
theorem ev_lstA (ha : Ev p ta σ F (.ref a)) (h : SqL K F a xs ∨ SqT K F a xs) : EvP p (tCB (rLstOf K) (tCons ta tNil)) σ F (NewP F (.lst xs)) := ev_cb (ea_cons ha ea_nil) fun F1 H e at1 Q q => ⟨a, xs, rfl, h.elim (fun h => .inl (at1.l (e.seq h))) (fun h => .inr (at1.t (same_t e h))), fun l hl => q _ _ _ (same_new (at1.free hl)) (at1.new hl) ⟨l, rfl, e.free (at1.free hl), upd_same⟩⟩
/-- [x] * n -/
theorem flat1 {α : Type} (x : α) : ∀ n : Nat, (List.replicate n [x]).flatten = List.replicate n x
  | 0 => rfl
  | n + 1 => by rw [List.replicate_succ, List.flatten_cons, flat1 x n]; rfl
theorem ev_repl {m : Nat} (ha : Ev p ta σ F x) (hb : Ev p tb σ F (.int (m : Int))) (hm : m ≤ 1000) : EvP p (tOp rRep (tLst (tCons ta tNil)) tb) σ F (NewP F (.lst (List.replicate m x))) := fun F1 H e at1 Q k =>
  ha F1 H e at1 _ fun H2 a2 => ⟨by show 1 ≤ sizeLine; decide, fun l hl => by
    have a3 := a2.new (o := .lst [x]) hl
    refine hb (upd F1 l (.lst [x])) _ (e.trans (same_new (a2.free hl))) a3 _ fun H4 a4 => ?_
    refine ⟨l, (m : Int), [x], rfl, rfl, a4.get upd_same, by omega, by omega, ?_, fun r hr => ?_⟩
    · rw [Int.toNat_natCast]
      show 1 * m ≤ sizeLine
      exact Nat.le_trans (by omega : 1 * m ≤ 1000) (by decide)
    · rw [Int.toNat_natCast, flat1]
      have s5 : Same F1 (upd F1 l (.lst [x])) := same_new (a2.free hl)
      exact k _ _ _ (s5.trans (same_new (a4.free hr))) (a4.new hr) ⟨r, rfl, e.free (s5.free (a4.free hr)), upd_same⟩⟩
/-- xs + ys, both known; one made -/
theorem ev_cat (ha : EvP p ta σ F (fun v F1 => ∃ l, v = .ref l ∧ F1 l = some (.lst xs))) (hb : ∀ F1, Same F F1 → EvP p tb σ F1 (fun v F2 => ∃ l, v = .ref l ∧ F2 l = some (.lst ys))) (hz : xs.length + ys.length ≤ 100000) : EvP p (tOp rCat ta tb) σ F (NewP F (.lst (xs ++ ys))) :=
  ev_opP ha (fun x F1 s _ => hb F1 s) fun x y F1 F2 H s1 ⟨l, ex, h1⟩ s2 ⟨m, ey, h2⟩ a2 Q k => ⟨l, m, xs, ys, ex, ey, a2.get (s2 _ _ h1), a2.get h2, Nat.le_trans hz (by decide), fun r hr => k _ _ _ (same_new (a2.free hr)) (a2.new hr) ⟨r, rfl, (s1.trans s2).free (a2.free hr), upd_same⟩⟩
end
/-! ### charts and meters in the heap -/
structure Cs where
  c : Addr
  m : Addr
  s : Addr
def ChA (K : PySem.W.Frag) (C : Cs) (F : Hp) (x : Addr) (c : List Int) (a : Arr) : Prop := ∃ dx fs ca aa, F x = some (.ins C.c dx fs) ∧ fs.lookup ("costs" : Str) = some (.ref ca) ∧ fs.lookup ("arrows" : Str) = some (.ref aa) ∧ IT K F ca c ∧ AT K F aa a
def MtA (K : PySem.W.Frag) (C : Cs) (F : Hp) (m : Addr) (c : List Int) (a : Arr) (f : Int) (g : List Int) : Prop := ∃ dx fs x ga, F m = some (.ins C.m dx fs) ∧ fs.lookup ("chart" : Str) = some (.ref x) ∧ fs.lookup ("first" : Str) = some (.int f) ∧ fs.lookup ("charges" : Str) = some (.ref ga) ∧ ChA K C F x c a ∧ IT K F ga g
/-- a good meter -/
structure MW (K : PySem.W.Frag) (C : Cs) (F : Hp) (m : Addr) (c : List Int) (a : Arr) (pp g : List Int) : Prop where
  h : MtA K C F m c a (nth pp 0) g
  ch : Ch c a
  mt : Mt c a pp g
section
variable {K : PySem.W.Frag} {C : Cs} {F F' : Hp} {x : Addr} {c g pp : List Int} {a : Arr} {f : Int}
theorem ChA.mono (s : Same F F') (h : ChA K C F x c a) : ChA K C F' x c a := by
  obtain ⟨dx, fs, ca, aa, h1, h2, h3, h4, h5⟩ := h
  exact ⟨dx, fs, ca, aa, s _ _ h1, h2, h3, h4.mono s, h5.mono s⟩
theorem MtA.mono (s : Same F F') (h : MtA K C F x c a f g) : MtA K C F' x c a f g := by
  obtain ⟨dx, fs, y, ga, h1, h2, h3, h4, h5, h6⟩ := h
  exact ⟨dx, fs, y, ga, s _ _ h1, h2, h3, h4, h5.mono s, h6.mono s⟩
theorem MW.mono (s : Same F F') (h : MW K C F x c a pp g) : MW K C F' x c a pp g := ⟨h.h.mono s, h.ch, h.mt⟩
variable {p : Wd} {σ : L2.St} {te : TE}
theorem ChA.costs (T : Tx K C.c C.m C.s) (h : ChA K C F x c a) (ha : Ev p te σ F (.ref x)) : ∃ ca, Ev p (tFld K te "costs") σ F (.ref ca) ∧ IT K F ca c := by
  obtain ⟨dx, fs, ca, aa, h1, h2, h3, h4, h5⟩ := h
  exact ⟨ca, ev_fld ha h1 T.c T.c_costs h2, h4⟩
theorem ChA.arrows (T : Tx K C.c C.m C.s) (h : ChA K C F x c a) (ha : Ev p te σ F (.ref x)) : ∃ aa, Ev p (tFld K te "arrows") σ F (.ref aa) ∧ AT K F aa a := by
  obtain ⟨dx, fs, ca, aa, h1, h2, h3, h4, h5⟩ := h
  exact ⟨aa, ev_fld ha h1 T.c T.c_arrows h3, h5⟩
theorem MtA.chart (T : Tx K C.c C.m C.s) (h : MtA K C F x c a f g) (ha : Ev p te σ F (.ref x)) : ∃ y, Ev p (tFld K te "chart") σ F (.ref y) ∧ ChA K C F y c a := by
  obtain ⟨dx, fs, y, ga, h1, h2, h3, h4, h5, h6⟩ := h
  exact ⟨y, ev_fld ha h1 T.m T.m_chart h2, h5⟩
theorem MtA.first (T : Tx K C.c C.m C.s) (h : MtA K C F x c a f g) (ha : Ev p te σ F (.ref x)) : Ev p (tFld K te "first") σ F (.int f) := by
  obtain ⟨dx, fs, y, ga, h1, h2, h3, h4, h5, h6⟩ := h
  exact ev_fld ha h1 T.m T.m_first h3
theorem MtA.charges (T : Tx K C.c C.m C.s) (h : MtA K C F x c a f g) (ha : Ev p te σ F (.ref x)) : ∃ ga, Ev p (tFld K te "charges") σ F (.ref ga) ∧ IT K F ga g := by
  obtain ⟨dx, fs, y, ga, h1, h2, h3, h4, h5, h6⟩ := h
  exact ⟨ga, ev_fld ha h1 T.m T.m_charges h4, h6⟩
theorem MW.arrows (T : Tx K C.c C.m C.s) (h : MW K C F x c a pp g) (ha : Ev p te σ F (.ref x)) : ∃ aa, Ev p (tFld K (tFld K te "chart") "arrows") σ F (.ref aa) ∧ AT K F aa a := by
  obtain ⟨y, e, hy⟩ := h.h.chart T ha
  exact hy.arrows T e
theorem MW.costs (T : Tx K C.c C.m C.s) (h : MW K C F x c a pp g) (ha : Ev p te σ F (.ref x)) : ∃ ca, Ev p (tFld K (tFld K te "chart") "costs") σ F (.ref ca) ∧ IT K F ca c := by
  obtain ⟨y, e, hy⟩ := h.h.chart T ha
  exact hy.costs T e
theorem MW.charges (T : Tx K C.c C.m C.s) (h : MW K C F x c a pp g) (ha : Ev p te σ F (.ref x)) : ∃ ga, Ev p (tFld K te "charges") σ F (.ref ga) ∧ IT K F ga g := h.h.charges T ha
theorem MW.len (h : MW K C F x c a pp g) : pp.length = c.length := h.mt.pl
end
/-! ### rows -/
theorem sgn_mul {s : Int} (h : s = 1 ∨ s = -1) (x : Int) : CMul s x := by
  refine .inl ?_
  rcases h with h | h <;> subst h <;> decide
def RowOk (φ : Nat → Int) (n : Nat) (row : List V) : Prop := row.length = n ∧ ∀ (i : Nat) x, row[i]? = some x → x = .non ∨ x = .int (φ i)
theorem RowOk.get {φ : Nat → Int} {n : Nat} {row : List V} (h : RowOk φ n row) {i : Nat} (hi : i < n) : row[i]? = some .non ∨ row[i]? = some (.int (φ i)) := by
  have hl : i < row.length := by rw [h.1]; exact hi
  rcases h.2 i row[i] (List.getElem?_eq_getElem hl) with e | e
  · exact .inl (by rw [List.getElem?_eq_getElem hl, e])
  · exact .inr (by rw [List.getElem?_eq_getElem hl, e])
theorem RowOk.set {φ : Nat → Int} {n : Nat} {row : List V} (h : RowOk φ n row) {i : Nat} : RowOk φ n (row.set i (.int (φ i))) := by
  refine ⟨by rw [List.length_set]; exact h.1, fun j x e => ?_⟩
  rw [List.getElem?_set] at e
  split at e
  · rename_i z
    split at e
    · subst z
      exact .inr (Option.some.inj e).symm
    · cases e
  · exact h.2 j x e
theorem RowOk.new (φ : Nat → Int) (n : Nat) : RowOk φ n (List.replicate n .non) := ⟨List.length_replicate, fun i x e => by
  rw [List.getElem?_replicate] at e
  split at e
  · exact .inl (Option.some.inj e).symm
  · cases e⟩
/-- a list of rows; of the k-th besides R k -/
def RowsA (K : PySem.W.Frag) (F : Hp) (q : Addr) (φ : Nat → Int) (n m : Nat) (R : Nat → List V → Prop) : Prop := ∃ rs : List Addr, SqL K F q (rs.map V.ref) ∧ rs.length = m ∧ ∀ (k : Nat) r, rs[k]? = some r → ∃ row, SqL K F r row ∧ RowOk φ n row ∧ R k row
theorem RowsA.mono {K : PySem.W.Frag} {F F' : Hp} {q : Addr} {φ : Nat → Int} {n m : Nat} {R : Nat → List V → Prop} (s : Same F F') (h : RowsA K F q φ n m R) : RowsA K F' q φ n m R := by
  obtain ⟨rs, h1, h2, h3⟩ := h
  exact ⟨rs, s.seq h1, h2, fun k r e => let ⟨row, e1, e2⟩ := h3 k r e; ⟨row, s.seq e1, e2⟩⟩
/-- tables of rows from one start -/
def TabA (K : PySem.W.Frag) (F : Hp) (tb : Addr) (st n m : Nat) (pp : List Int) : Prop := ∃ ts : List Addr, SqL K F tb (ts.map V.ref) ∧ ts.length ≤ 2 ∧ ∀ t ∈ ts, ∃ (s : Int) (rw : Addr), SqT K F t [.int s, .ref rw] ∧ (s = 1 ∨ s = -1) ∧ RowsA K F rw (fun v => s * (nth pp st - nth pp v)) n m (fun _ _ => True)
theorem TabA.mono {K : PySem.W.Frag} {F F' : Hp} {q : Addr} {st n m : Nat} {pp : List Int} (s : Same F F') (h : TabA K F q st n m pp) : TabA K F' q st n m pp := by
  obtain ⟨ts, h1, h2, h3⟩ := h
  exact ⟨ts, s.seq h1, h2, fun t e => let ⟨i, rw, e1, e2, e3⟩ := h3 t e; ⟨i, rw, same_t s e1, e2, e3.mono s⟩⟩
def RunA (K : PySem.W.Frag) (F : Hp) (r : Addr) (run : List Nat) : Prop := SqL K F r (run.map fun (k : Nat) => V.int (k : Int)) ∨ SqT K F r (run.map fun (k : Nat) => V.int (k : Int))
def RunT (K : PySem.W.Frag) (F : Hp) (r : Addr) (run : List Nat) : Prop := SqT K F r (run.map fun (k : Nat) => V.int (k : Int))
theorem RunA.mono {K : PySem.W.Frag} {F F' : Hp} {q : Addr} {run : List Nat} (s : Same F F') (h : RunA K F q run) : RunA K F' q run := h.imp s.seq (same_t s)
theorem RunT.mono {K : PySem.W.Frag} {F F' : Hp} {q : Addr} {run : List Nat} (s : Same F F') (h : RunT K F q run) : RunT K F' q run := same_t s h
theorem run_get {run : List Nat} {i : Nat} (h : i < run.length) : (run.map fun (k : Nat) => V.int (k : Int))[i]? = some (.int (rn run i : Int)) := by
  rw [List.getElem?_map, rn_get h]
  rfl
/-! ### the promises -/
/-- a value comes back, nothing more is told -/
def RV (p : Wd) (F : Hp) (v : V) (Q : VK) : Prop := ∀ H', At p F H' → Q v H'
section
variable {p : Wd} {F : Hp} {σ : L2.St} {t : TA} {vs : List V} {v : V} {sp : Sp} {E : XK}
theorem ev_callV (ha : EvA p t σ F vs) (hs : ∀ F1 H, Same F F1 → At p F1 H → ∀ Q : VK, RV p F1 v Q → sp vs H Q E) : Ev p (tCall sp [] E t) σ F v := fun F1 H e a Q q =>
  ha F1 H e a _ fun H2 a2 => by
    show sp (vs ++ []) H2 Q E
    rw [List.append_nil]
    exact hs F1 H2 e a2 Q q
end
def sp_is_whole : Sp := fun vs H Q _ => ∃ (p : Wd) (F : Hp) (i lo hi : Int), vs = [.int i, .int lo, .int hi] ∧ At p F H ∧ RV p F (.bl (decide (lo ≤ i) && decide (i ≤ hi))) Q
def sp_is_row (K : PySem.W.Frag) : Sp := fun vs H Q _ => ∃ (p : Wd) (F : Hp) (a : Addr) (xs : List V) (lo hi : Int), vs = [.ref a, .int lo, .int hi] ∧ At p F H ∧ (SqL K F a xs ∨ SqT K F a xs) ∧ RV p F (.bl (decide (lo ≤ (xs.length : Int)) && decide ((xs.length : Int) ≤ hi))) Q
def sp_reached_places (K : PySem.W.Frag) : Sp := fun vs H Q _ => ∃ (p : Wd) (F : Hp) (aa : Addr) (a : Arr) (n : Nat), vs = [.int (n : Int), .ref aa] ∧ At p F H ∧ AT K F aa a ∧ 1 ≤ n ∧ n ≤ 16 ∧ (∀ e ∈ a, e.1 < n ∧ e.2 < n) ∧ (∀ v, v < n → Reach a v) ∧ Back p F (NewP F (.lst (List.replicate n (.bl true)))) Q
def sp_chart_init (K : PySem.W.Frag) (C : Cs) : Sp := fun vs H Q _ => ∃ (p : Wd) (F : Hp) (x dx ca aa : Addr) (c : List Int) (a : Arr), vs = [.ref x, .ref ca, .ref aa] ∧ At (.own p x (.ins C.c dx [])) F H ∧ IT K F ca c ∧ AT K F aa a ∧ Ch c a ∧
  ∀ F' H' fs a2, Same F F' → At (.own p x (.ins C.c dx fs)) F' H' → fs.lookup ("costs" : Str) = some (.ref ca) → fs.lookup ("arrows" : Str) = some (.ref a2) → AT K F' a2 a → Q .non H'
def sp_meter_init (K : PySem.W.Frag) (C : Cs) : Sp := fun vs H Q _ => ∃ (p : Wd) (F : Hp) (x dx ch ga : Addr) (c : List Int) (a : Arr) (f : Int) (g : List Int), vs = [.ref x, .ref ch, .int f, .ref ga] ∧ At (.own p x (.ins C.m dx [])) F H ∧ ChA K C F ch c a ∧ IT K F ga g ∧ g.length = a.length ∧ (0 ≤ f ∧ f ≤ 1000000000000) ∧ (∀ y ∈ g, 0 ≤ y ∧ y ≤ 1000000000000) ∧
  ∀ H' fs, At (.own p x (.ins C.m dx fs)) F H' → fs.lookup ("chart" : Str) = some (.ref ch) → fs.lookup ("first" : Str) = some (.int f) → fs.lookup ("charges" : Str) = some (.ref ga) → Q .non H'
def sp_stop_init (C : Cs) : Sp := fun vs H Q _ => ∃ (p : Wd) (F : Hp) (x dx : Addr) (pl un : Int), vs = [.ref x, .int pl, .int un] ∧ At (.own p x (.ins C.s dx [])) F H ∧
  ∀ H' fs, At (.own p x (.ins C.s dx fs)) F H' → fs.lookup ("places" : Str) = some (.int pl) → fs.lookup ("unused" : Str) = some (.int un) → Q .non H'
def sp_arrow_gain (K : PySem.W.Frag) (C : Cs) : Sp := fun vs H Q _ => ∃ (p : Wd) (F : Hp) (m : Addr) (c : List Int) (a : Arr) (pp g : List Int) (k : Nat), vs = [.ref m, .int (k : Int)] ∧ At p F H ∧ MW K C F m c a pp g ∧ k < a.length ∧ RV p F (.int (nth pp (ar a k).2 - nth pp (ar a k).1)) Q
def sp_rest_rows (K : PySem.W.Frag) (C : Cs) : Sp := fun vs H Q _ => ∃ (p : Wd) (F : Hp) (m : Addr) (c : List Int) (a : Arr) (pp g : List Int) (lr : Addr) (row : List V) (lo : Int) (ln : Nat) (s : Int) (φ : Nat → Int), vs = [.ref m, .ref lr, .int lo, .int (ln : Int), .int s] ∧ At p F H ∧ MW K C F m c a pp g ∧
  SqL K F lr row ∧ RowOk φ c.length row ∧ (s = 1 ∨ s = -1) ∧ ln ≤ 16 ∧ (∀ k, k < a.length → φ (ar a k).1 = φ (ar a k).2 + s * (nth pp (ar a k).2 - nth pp (ar a k).1)) ∧ Back p F (fun v F2 => ∃ q, v = .ref q ∧ F q = none ∧ RowsA K F2 q φ c.length (ln + 1) (fun _ _ => True)) Q
def sp_can_drift (K : PySem.W.Frag) : Sp := fun vs H Q _ => ∃ (p : Wd) (F : Hp) (tb : Addr) (st n m left : Nat) (pp : List Int), vs = [.ref tb, .int (st : Int), .int (left : Int), .int 0] ∧ At p F H ∧ TabA K F tb st n m pp ∧ st < n ∧ left < m ∧ RV p F (.bl false) Q
def sp_least_ring (K : PySem.W.Frag) : Sp := fun vs H Q _ => ∃ (p : Wd) (F : Hp) (mt tb : Addr) (st n m ln : Nat) (pp : List Int), vs = [.ref mt, .ref tb, .int (st : Int), .int (ln : Int)] ∧ At p F H ∧ TabA K F tb st n m pp ∧ st < n ∧ ln < m ∧ RV p F .non Q
def sp_first_drift (K : PySem.W.Frag) (C : Cs) : Sp := fun vs H Q _ => ∃ (p : Wd) (F : Hp) (m sn : Addr) (c : List Int) (a : Arr) (pp g ss : List Int), vs = [.ref m, .ref sn] ∧ At p F H ∧ MW K C F m c a pp g ∧ IT K F sn ss ∧ ss.length ≤ 2 ∧ (∀ s ∈ ss, s = 1 ∨ s = -1) ∧ RV p F .non Q
def sp_find (K : PySem.W.Frag) (C : Cs) : Sp := fun vs H Q _ => ∃ (p : Wd) (F : Hp) (m : Addr) (c : List Int) (a : Arr) (pp g : List Int), vs = [.ref m] ∧ At p F H ∧ MW K C F m c a pp g ∧ RV p F .non Q
def sp_check_run (K : PySem.W.Frag) (C : Cs) : Sp := fun vs H Q _ => ∃ (p : Wd) (F : Hp) (ch r : Addr) (c : List Int) (a : Arr) (run : List Nat), vs = [.ref ch, .ref r] ∧ At p F H ∧ ChA K C F ch c a ∧ RunA K F r run ∧ IsRun a 0 run ∧ run.length ≤ 400 ∧ Back p F (fun v F2 => ∃ q, v = .ref q ∧ RunT K F2 q run) Q
/-- the places of a run, what is used -/
def plV (a : Arr) (run : List Nat) : List V := (List.range (run.length + 1)).map fun i => V.int (plc a run i : Int)
def usV (c : List Int) (a : Arr) (run : List Nat) : List Int := (List.range (run.length + 1)).map fun i => U c a run i
def sp_places_of (K : PySem.W.Frag) (C : Cs) : Sp := fun vs H Q _ => ∃ (p : Wd) (F : Hp) (ch r : Addr) (c : List Int) (a : Arr) (run : List Nat), vs = [.ref ch, .ref r] ∧ At p F H ∧ ChA K C F ch c a ∧ RunA K F r run ∧ IsRun a 0 run ∧ run.length ≤ 400 ∧ Back p F (fun v F2 => ∃ q, v = .ref q ∧ SqT K F2 q (plV a run)) Q
def sp_used_row (K : PySem.W.Frag) (C : Cs) : Sp := fun vs H Q _ => ∃ (p : Wd) (F : Hp) (ch r : Addr) (c : List Int) (a : Arr) (run : List Nat), vs = [.ref ch, .ref r] ∧ At p F H ∧ ChA K C F ch c a ∧ Ch c a ∧ RunA K F r run ∧ IsRun a 0 run ∧ run.length ≤ 400 ∧ Back p F (fun v F2 => ∃ q, v = .ref q ∧ IT K F2 q (usV c a run)) Q
def sp_lead_rows (K : PySem.W.Frag) (C : Cs) : Sp := fun vs H Q _ => ∃ (p : Wd) (F : Hp) (m : Addr) (c : List Int) (a : Arr) (pp g : List Int) (s : Int), vs = [.ref m, .int s] ∧ At p F H ∧ MW K C F m c a pp g ∧ (s = 1 ∨ s = -1) ∧
  Back p F (fun v F2 => ∃ q, v = .ref q ∧ RowsA K F2 q (fun v => s * nth pp v) c.length c.length (fun k row => ∀ v, Wk a k v → v < c.length → row[v]? ≠ some .non)) Q
def sp_extreme_worths (K : PySem.W.Frag) (C : Cs) : Sp := fun vs H Q _ => ∃ (p : Wd) (F : Hp) (m : Addr) (c : List Int) (a : Arr) (pp g : List Int) (s : Int), vs = [.ref m, .int s] ∧ At p F H ∧ MW K C F m c a pp g ∧ (s = 1 ∨ s = -1) ∧ Back p F (fun v F2 => ∃ q, v = .ref q ∧ IL K F2 q (pp.map fun x => s * x)) Q
/-- a meter's leads come back -/
def sp_leads (K : PySem.W.Frag) (C : Cs) : Sp := fun vs H Q _ => ∃ (p : Wd) (F : Hp) (m : Addr) (c : List Int) (a : Arr) (pp g : List Int), vs = [.ref m] ∧ At p F H ∧ MW K C F m c a pp g ∧ Back p F (fun v F2 => ∃ q, v = .ref q ∧ IT K F2 q pp) Q
def sp_check_limit : Sp := fun vs H Q _ => ∃ (p : Wd) (F : Hp) (l : Int), vs = [.int l] ∧ At p F H ∧ 0 ≤ l ∧ l ≤ 1000000000000000 ∧ RV p F (.int l) Q
def sp_plain_stop (K : PySem.W.Frag) (C : Cs) : Sp := fun vs H Q _ => ∃ (p : Wd) (F : Hp) (ch r : Addr) (c : List Int) (a : Arr) (run : List Nat) (lim : Int), vs = [.ref ch, .ref r, .int lim] ∧ At p F H ∧ ChA K C F ch c a ∧ Ch c a ∧ RunA K F r run ∧ IsRun a 0 run ∧ run.length ≤ 400 ∧ 0 ≤ lim ∧ lim ≤ 1000000000000000 ∧ ∀ k : Nat, PlainR c a run lim k → RV p F (.int (k : Int)) Q
def sp_one_paced (K : PySem.W.Frag) (C : Cs) : Sp := fun vs H Q _ => ∃ (p : Wd) (F : Hp) (m r : Addr) (c : List Int) (a : Arr) (pp g : List Int) (run : List Nat) (lim : Int), vs = [.ref m, .ref r, .int lim] ∧ At p F H ∧ MW K C F m c a pp g ∧ RunA K F r run ∧ IsRun a 0 run ∧ run.length ≤ 400 ∧ 0 ≤ lim ∧ lim ≤ 1000000000000000 ∧
  Back p F (fun v F2 => ∃ q dx fs, ∃ (pl : Nat) (un : Int) (st : Bool), v = .ref q ∧ F2 q = some (.ins C.s dx fs) ∧ fs.lookup ("places" : Str) = some (.int (pl : Int)) ∧ fs.lookup ("unused" : Str) = some (.int un) ∧ OneR c a g (nth pp 0) run lim pl un st) Q
abbrev sp_find_drift := sp_find
abbrev sp_find_fall := sp_find
abbrev sp_find_rise := sp_find
abbrev sp_low_leads := sp_leads
abbrev sp_high_leads := sp_leads
abbrev sp_even_leads := sp_leads
abbrev sp_good_leads := sp_leads
section
variable {K : PySem.W.Frag} {p : Wd} {F F' F1 F2 H H' : Hp} {q a b : Addr} {o u : HO} {xs ys : List V} {σ : L2.St} {ta tb tc te tl : TE} {t : TA} {tt tu : TT} {v x y z : V} {P P' : V → Hp → Prop} {D : Ends} {t1 t2 ts : TS} {n : Nat} {g : TG} {ns ms : List Int} {i j k lo hi : Int} {E : XK}
theorem et_bl {b : Bool} (h : Ev p te σ F (.bl b)) : EvT p (tTru K te) σ F b := et_tru h fun _ _ _ _ => rfl
theorem ev_whole (h : EvA p t σ F [.int i, .int lo, .int hi]) : Ev p (tCall sp_is_whole [] E t) σ F (.bl (decide (lo ≤ i) && decide (i ≤ hi))) := ev_callV h fun F1 H s a Q k => ⟨p, F1, i, lo, hi, rfl, a, k⟩
theorem ev_rowc (h : EvA p t σ F [.ref a, .int lo, .int hi]) (hx : SqL K F a xs ∨ SqT K F a xs) : Ev p (tCall (sp_is_row K) [] E t) σ F (.bl (decide (lo ≤ (xs.length : Int)) && decide ((xs.length : Int) ≤ hi))) := ev_callV h fun F1 H s a1 Q k => ⟨p, F1, a, xs, lo, hi, rfl, a1, hx.imp s.seq (same_t s), k⟩
theorem ev_p9 : Ev p (tOp (rI CPow fun i j => .int (i ^ j.toNat)) (tC (.int 10)) (tC (.int 9))) σ F (.int 1000000000) := (ev_pow ev_c ev_c ⟨by decide, by decide, by decide⟩).is (by rfl)
theorem st_pop (a1 : At (.own p q (.lst xs)) F H) (hl : Ev (.own p q (.lst xs)) tl σ F (.ref q)) (hx : xs[xs.length - 1]? = some y) (k : ∀ H1, At (.own p q (.lst xs.dropLast)) F H1 → D.nx (σ.set n (some y)) H1) : tAsg (tBM0 K "list" rPop tl) (gName n) D σ H :=
  hl F H (Same.refl _) a1 _ fun H1 a1 => ⟨tyv_lst a1.mine_at, q, xs, y, rfl, rfl, a1.mine_at, hx, k _ a1.put⟩
/-- a comprehension's list, one's own from now on -/
theorem st_asgLc {R : List V → Hp → Prop} (a1 : At p F H) (h : EvP p te σ F (LcP F R)) (k : ∀ q xs F1 H1, Same F F1 → F q = none → At (.own p q (.lst xs)) F1 H1 → R xs F1 → D.nx (σ.set n (some (.ref q))) H1) : tAsg te (gName n) D σ H :=
  h F H (Same.refl _) a1 _ fun v F2 H2 e2 a2 ⟨q, xs, F3, ev, nq, n3, ef, s3, r⟩ => by
    subst ev ef
    exact k q xs F3 H2 s3 nq (a2.take upd_same n3 (same_new n3)) r
/-- enumerate of what the header makes -/
theorem st_forE2P {i1 i2 : Nat} {Pt : Addr → List V → Hp → Prop} (J : Addr → List V → LJ) (at0 : At p F H) (h : EvAP p t σ F (fun vs F1 => ∃ a xs, vs = [.ref a] ∧ (SqL K F1 a xs ∨ SqT K F1 a xs) ∧ Pt a xs F1)) (h0 : ∀ a xs F1, Same F F1 → Pt a xs F1 → J a xs 0 σ p F1)
    (hs : ∀ a xs F1 i x σ' p' F' H', Same F F1 → Pt a xs F1 → xs[i]? = some x → Same F1 F' → At p' F' H' → J a xs i σ' p' F' → ts (tn F1 (J a xs) (i + 1) D) ((σ'.set i1 (some (.int (i : Int)))).set i2 (some x)) H') (hd : ∀ a xs F1 σ' p' F' H', Same F F1 → Pt a xs F1 → Same F1 F' → At p' F' H' → J a xs xs.length σ' p' F' → D.nx σ' H') :
    tFor (iEnumA K t) (gTup K 2 (gCons (gName i1) (gCons (gName i2) gNil))) ts D σ H :=
  h F H (Same.refl _) at0 _ fun vs F1 H1 e1 a1 ⟨a, xs, ev, hx, pt⟩ => by
    subst ev
    have q := st_forE2 (t := fun σ H Q => Q [.ref a] H) (σ := σ) (ts := ts) (D := D) (i1 := i1) (i2 := i2) (J a xs) a1 (fun _ _ _ a Q q => q _ a) hx (h0 a xs F1 e1 pt) (fun i x σ' p' F' H' hi s' a' j => hs a xs F1 i x σ' p' F' H' e1 pt hi s' a' j) (fun σ' p' F' H' s' a' j => hd a xs F1 σ' p' F' H' e1 pt s' a' j)
    exact q
end
section
variable {p : Wd} {F : Hp} {σ : L2.St} {ta : TE} {tr : TA} {x : V} {Pr : List V → Hp → Prop}
theorem eap_consV (h : Ev p ta σ F x) (hr : EvAP p tr σ F Pr) : EvAP p (tCons ta tr) σ F (fun vs F2 => ∃ r, vs = x :: r ∧ Pr r F2) := fun F1 H e a Q q =>
  h F1 H e a _ fun H2 a2 => hr F1 H2 e a2 _ fun r F3 H3 e3 a3 pr => q (x :: r) F3 H3 e3 a3 ⟨r, rfl, pr⟩
end
end PA
/-! P5: the hand; the promises of the law's own defs. -/
namespace PA
open PySem PyProof.Rows L2
/-- the hand is the list at h, its cells at c -/
def HasHand : Wd → Addr → Addr → Prop
  | .nil, _, _ => False
  | .hand a c, h, d => h = a ∧ d = c
  | .own p _ _, h, d => HasHand p h d
/-- the world without its hand -/
def rep : Wd → Wd
  | .nil => .nil
  | .hand _ _ => .nil
  | .own p q o => .own (rep p) q o
abbrev hnd (c : Addr) (i r t : Int) : HO := .lst [.ref c, .int i, .int r, .int t]
section
variable {K : PySem.W.Frag} {F F' H H' : Hp} {h c b : Addr}
theorem hid_rep : ∀ {p : Wd} {b : Addr}, HasHand p h c → (hid p b ↔ b = h ∨ hid (rep p) b)
  | .nil, _, e => e.elim
  | .hand a d, _, ⟨e1, e2⟩ => by
    subst e1
    exact ⟨fun z => .inl z, fun z => z.resolve_right fun y => y⟩
  | .own p q o, b, e => by
    have ih := hid_rep (p := p) (b := b) e
    constructor
    · intro z
      rcases (show b = q ∨ hid p b from z) with z | z
      · exact .inr (.inl z)
      · exact (ih.mp z).imp id .inr
    · intro z
      rcases z with z | z
      · exact .inr (ih.mpr (.inl z))
      · rcases (show b = q ∨ hid (rep p) b from z) with z | z
        · exact .inl z
        · exact .inr (ih.mpr (.inr z))
theorem vis_rep {p : Wd} (e : HasHand p h c) (o : HO) : vis p H = vis (.own (rep p) h o) H := by
  funext b
  rcases hid_em p b with z | z
  · rw [vis_hid z, vis_hid (p := .own (rep p) h o) ((hid_rep e).mp z)]
  · rw [vis_not z, vis_not (p := .own (rep p) h o) fun y => z ((hid_rep e).mpr y)]
theorem grd_rep : ∀ {p : Wd}, HasHand p h c → grd p H → ∃ i r t : Int, (0 ≤ i ∧ 0 ≤ r ∧ 0 ≤ t) ∧ grd (.own (rep p) h (hnd c i r t)) H
  | .nil, e, _ => e.elim
  | .hand a d, ⟨e1, e2⟩, ⟨i, r, t, g, z⟩ => by
    subst e1 e2
    exact ⟨i, r, t, z, g, fun y => y, True.intro⟩
  | .own p q o, e, ⟨g1, g2, g3⟩ => by
    obtain ⟨i, r, t, z, k1, k2, k3⟩ := grd_rep (p := p) e g3
    refine ⟨i, r, t, z, k1, fun y => ?_, g1, fun y => g2 ((hid_rep (p := p) e).mpr (.inr y)), k3⟩
    rcases (show h = q ∨ hid (rep p) h from y) with y | y
    · exact g2 ((hid_rep (p := p) e).mpr (.inl y.symm))
    · exact k2 y
theorem rep_grd {i r t : Int} (z : 0 ≤ i ∧ 0 ≤ r ∧ 0 ≤ t) : ∀ {p : Wd}, HasHand p h c → grd (.own (rep p) h (hnd c i r t)) H → grd p H
  | .nil, e, _ => e.elim
  | .hand a d, ⟨e1, e2⟩, ⟨g, _⟩ => by
    subst e1 e2
    exact ⟨i, r, t, g, z⟩
  | .own p q o, e, ⟨k1, k2, g1, g2, k3⟩ => by
    refine ⟨g1, fun y => ?_, rep_grd z (p := p) e ⟨k1, fun y => k2 (.inr y), k3⟩⟩
    rcases (hid_rep (p := p) e).mp y with y | y
    · exact k2 (.inl y.symm)
    · exact g2 y
theorem At.hand {p : Wd} (a : At p F H) (e : HasHand p h c) : ∃ i r t : Int, (0 ≤ i ∧ 0 ≤ r ∧ 0 ≤ t) ∧ At (.own (rep p) h (hnd c i r t)) F H := by
  obtain ⟨s, g⟩ := a
  obtain ⟨i, r, t, z, k⟩ := grd_rep e g
  exact ⟨i, r, t, z, by rw [← vis_rep e]; exact s, k⟩
theorem At.back {p : Wd} {i r t : Int} (a : At (.own (rep p) h (hnd c i r t)) F H) (e : HasHand p h c) (z : 0 ≤ i ∧ 0 ≤ r ∧ 0 ≤ t) : At p F H :=
  ⟨by rw [vis_rep e (hnd c i r t)]; exact a.1, rep_grd z e a.2⟩
/-- a hand of good cells -/
def Hnd (K : PySem.W.Frag) (p : Wd) (F : Hp) (h : Addr) : Prop := ∃ c cells, HasHand p h c ∧ IL K F c cells ∧ cells.length ≤ 63 ∧ ∀ x ∈ cells, 0 ≤ x
theorem Hnd.mono {p : Wd} (s : Same F F') (x : Hnd K p F h) : Hnd K p F' h := let ⟨c, cells, h1, h2, h3⟩ := x; ⟨c, cells, h1, h2.mono s, h3⟩
theorem Hnd.own {p : Wd} {q : Addr} {o : HO} (x : Hnd K p F h) : Hnd K (.own p q o) F h := let ⟨c, cells, h1, h2, h3⟩ := x; ⟨c, cells, h1, h2, h3⟩
theorem Hnd.at {p p' : Wd} {acc : List V} (x : Hnd K p F h) (e : ∃ D, p' = .own p D (.lst acc)) (s : Same F F') : Hnd K p' F' h := by
  obtain ⟨D, rfl⟩ := e
  exact x.own.mono s
end
theorem st_sq2 {t1 t2 : TS} {D : Ends} {σ : L2.St} {H : Hp} (I : L2.St → Hp → Prop) (h2 : ∀ σ H, I σ H → t2 D σ H) (h1 : (∀ σ H, I σ H → t2 D σ H) → t1 { D with nx := t2 D } σ H) : tSeq t1 t2 D σ H := h1 h2
theorem st_asgC {p : Wd} {F H : Hp} {D : Ends} {σ : L2.St} {n : Nat} {v : V} (a : At p F H) (k : ∀ H1, At p F H1 → D.nx (σ.set n (some v)) H1) : tAsg (tC v) (gName n) D σ H := k H a
theorem st_break {D : Ends} {σ : L2.St} {H : Hp} (h : D.bk σ H) : tBreak D σ H := h
/-! ### promises -/
def sp_law_mixed : Sp := fun vs H Q _ => ∃ (p : Wd) (F : Hp) (a b : Int), vs = [.int a, .int b] ∧ At p F H ∧ ∀ v, RV p F (.int v) Q
def sp_law_take (K : PySem.W.Frag) : Sp := fun vs H Q _ => ∃ (p : Wd) (F : Hp) (h : Addr) (many : Int), vs = [.ref h, .int many] ∧ At p F H ∧ Hnd K p F h ∧ 1 ≤ many ∧ many ≤ 10000000000000000 ∧ ∀ v, 0 ≤ v → v < many → RV p F (.int v) Q
def sp_law_hand (K : PySem.W.Frag) : Sp := fun vs H Q _ => ∃ (F : Hp) (s : Addr) (ns : List Int), vs = [.ref s] ∧ At .nil F H ∧ SqL K F s (ns.map V.int) ∧ ns.length ≤ 63 ∧ ∀ h c F' H', Same F F' → At (.hand h c) F' H' → Hnd K (.hand h c) F' h → Q (.ref h) H'
def sp_law_costs (K : PySem.W.Frag) : Sp := fun vs H Q _ => ∃ (p : Wd) (F : Hp) (h : Addr) (n : Nat), vs = [.ref h, .int (n : Int)] ∧ At p F H ∧ Hnd K p F h ∧ n ≤ 16 ∧ Back p F (fun v F2 => ∃ q cs, v = .ref q ∧ IL K F2 q cs ∧ cs.length = n ∧ ∀ x ∈ cs, 0 ≤ x ∧ x ≤ 1000000000) Q
structure ArOk (n : Nat) (a : Arr) : Prop where
  ends : ∀ e ∈ a, e.1 < n ∧ e.2 < n
  reach : ∀ v, v < n → Reach a v
def sp_law_renumbered (K : PySem.W.Frag) : Sp := fun vs H Q _ => ∃ (p : Wd) (F : Hp) (h aa : Addr) (n : Nat) (a : Arr), vs = [.ref h, .int (n : Int), .ref aa] ∧ At p F H ∧ Hnd K p F h ∧ AL K F aa a ∧ 1 ≤ n ∧ n ≤ 16 ∧ a.length ≤ 32 ∧ ArOk n a ∧ Back p F (fun v F2 => ∃ q a', v = .ref q ∧ AL K F2 q a' ∧ a'.length = a.length ∧ ArOk n a') Q
def sp_law_chart (K : PySem.W.Frag) : Sp := fun vs H Q _ => ∃ (p : Wd) (F : Hp) (h : Addr) (most more : Nat), vs = [.ref h, .int (most : Int), .int (more : Int)] ∧ At p F H ∧ Hnd K p F h ∧ 1 ≤ most ∧ most ≤ 16 ∧ most + more ≤ 21 ∧
  Back p F (fun v F2 => ∃ q ca aa c a, v = .ref q ∧ SqT K F2 q [.ref ca, .ref aa] ∧ IT K F2 ca c ∧ AT K F2 aa a ∧ Ch c a ∧ a.length ≤ 20) Q
def sp_law_lot (K : PySem.W.Frag) : Sp := fun vs H Q _ => ∃ (p : Wd) (F : Hp) (h aa : Addr) (a : Arr) (dense : Int), vs = [.ref h, .ref aa, .int dense] ∧ At p F H ∧ Hnd K p F h ∧ AT K F aa a ∧ a.length ≤ 32 ∧ Back p F (fun v F2 => ∃ q lot, v = .ref q ∧ IT K F2 q lot ∧ lot.length ≤ a.length) Q
def sp_law_least (K : PySem.W.Frag) : Sp := fun vs H Q _ => ∃ (p : Wd) (F : Hp) (ca aa la fa : Addr) (c : List Int) (a : Arr) (lot fl : List Int), vs = [.ref ca, .ref aa, .ref la, .ref fa] ∧ At p F H ∧ Ch c a ∧ IT K F ca c ∧ AT K F aa a ∧ Sq K p F la (lot.map V.int) ∧ Sq K p F fa (fl.map V.int) ∧ fl.length = c.length ∧ (∀ x ∈ fl, x ≤ 1000000100) ∧
  Back p F (fun v F2 => (v = .non ∧ ¬ ∀ k : Nat, k < a.length → (k : Int) ∈ lot) ∨ ∃ q L, v = .ref q ∧ IL K F2 q L ∧ Lead c c a L) Q
def sp_law_charges (K : PySem.W.Frag) : Sp := fun vs H Q _ => ∃ (p : Wd) (F : Hp) (ca aa la : Addr) (c : List Int) (a : Arr) (L : List Int), vs = [.ref ca, .ref aa, .ref la] ∧ At p F H ∧ Ch c a ∧ IT K F ca c ∧ AT K F aa a ∧ IL K F la L ∧ L.length = c.length ∧
  Back p F (fun v F2 => ∃ q g, v = .ref q ∧ IT K F2 q g ∧ g.length = a.length ∧ ∀ k, k < a.length → nth g k = nth L (ar a k).2 - nth L (ar a k).1 + nth c (ar a k).1) Q
def sp_law_even_lot (K : PySem.W.Frag) : Sp := fun vs H Q _ => ∃ (p : Wd) (F : Hp) (h ca aa : Addr) (c : List Int) (a : Arr) (dense : Int), vs = [.ref h, .ref ca, .ref aa, .int dense] ∧ At p F H ∧ Hnd K p F h ∧ Ch c a ∧ IT K F ca c ∧ AT K F aa a ∧ a.length ≤ 20 ∧ Back p F (fun v F2 => ∃ q lot, v = .ref q ∧ IT K F2 q lot) Q
def sp_law_meter (K : PySem.W.Frag) : Sp := fun vs H Q _ => ∃ (p : Wd) (F : Hp) (h ca aa : Addr) (c : List Int) (a : Arr) (dense : Int), vs = [.ref h, .ref ca, .ref aa, .int dense] ∧ At p F H ∧ Hnd K p F h ∧ Ch c a ∧ IT K F ca c ∧ AT K F aa a ∧ a.length ≤ 20 ∧
  Back p F (fun v F2 => ∃ q ga la pp g, v = .ref q ∧ SqT K F2 q [.int (nth pp 0), .ref ga, .ref la] ∧ IT K F2 ga g ∧ Mt c a pp g) Q
def sp_law_lists (K : PySem.W.Frag) : Sp := fun vs H Q _ => ∃ (p : Wd) (F : Hp) (h r : Addr) (run : List Nat), vs = [.ref h, .ref r] ∧ At p F H ∧ Hnd K p F h ∧ RunT K F r run ∧ Back p F (fun v F2 => ∃ q, v = .ref q ∧ RunA K F2 q run) Q
def sp_law_world (K : PySem.W.Frag) : Sp := fun vs H Q _ => ∃ (p : Wd) (F : Hp) (h : Addr) (most more large : Nat), vs = [.ref h, .int (most : Int), .int (more : Int), .int (large : Int)] ∧ At p F H ∧ Hnd K p F h ∧ (1 ≤ most ∧ most ≤ 16) ∧ (1 ≤ large ∧ large ≤ 16) ∧ most + more ≤ 21 ∧ large + more ≤ 21 ∧
  Back p F (fun v F2 => ∃ q ca aa ga la c a pp g, v = .ref q ∧ SqT K F2 q [.ref ca, .ref aa, .int (nth pp 0), .ref ga, .ref la] ∧ IT K F2 ca c ∧ AT K F2 aa a ∧ IT K F2 ga g ∧ Ch c a ∧ Mt c a pp g) Q
def sp_law_run (K : PySem.W.Frag) : Sp := fun vs H Q _ => ∃ (p : Wd) (F : Hp) (h aa : Addr) (a : Arr) (most : Nat), vs = [.ref h, .ref aa, .int (most : Int)] ∧ At p F H ∧ Hnd K p F h ∧ AT K F aa a ∧ a.length ≤ 32 ∧ most ≤ 100 ∧ Back p F (fun v F2 => ∃ q run, v = .ref q ∧ RunT K F2 q run ∧ IsRun a 0 run ∧ run.length ≤ most) Q
def sp_law_places (K : PySem.W.Frag) : Sp := fun vs H Q _ => ∃ (p : Wd) (F : Hp) (aa r : Addr) (a : Arr) (run : List Nat), vs = [.ref aa, .ref r] ∧ At p F H ∧ AT K F aa a ∧ RunT K F r run ∧ IsRun a 0 run ∧ run.length ≤ 400 ∧ Back p F (NewP F (.lst (plV a run))) Q
def sp_law_used (K : PySem.W.Frag) : Sp := fun vs H Q _ => ∃ (p : Wd) (F : Hp) (ca aa r : Addr) (c : List Int) (a : Arr) (run : List Nat), vs = [.ref ca, .ref aa, .ref r] ∧ At p F H ∧ IT K F ca c ∧ AT K F aa a ∧ Ch c a ∧ RunT K F r run ∧ IsRun a 0 run ∧ run.length ≤ 400 ∧ RV p F (.int (T c a run (run.length + 1))) Q
def sp_law_plain (K : PySem.W.Frag) : Sp := fun vs H Q _ => ∃ (p : Wd) (F : Hp) (ca aa r : Addr) (c : List Int) (a : Arr) (run : List Nat) (lim : Int), vs = [.ref ca, .ref aa, .ref r, .int lim] ∧ At p F H ∧ IT K F ca c ∧ AT K F aa a ∧ Ch c a ∧ RunT K F r run ∧ IsRun a 0 run ∧ run.length ≤ 400 ∧ ∀ k : Nat, PlainR c a run lim k → RV p F (.int (k : Int)) Q
def sp_law_one (K : PySem.W.Frag) : Sp := fun vs H Q _ => ∃ (p : Wd) (F : Hp) (ca aa ga r : Addr) (c : List Int) (a : Arr) (g : List Int) (run : List Nat) (f lim : Int), vs = [.ref ca, .ref aa, .int f, .ref ga, .ref r, .int lim] ∧ At p F H ∧ IT K F ca c ∧ AT K F aa a ∧ IT K F ga g ∧ g.length = a.length ∧ Ch c a ∧ RunT K F r run ∧ IsRun a 0 run ∧ run.length ≤ 400 ∧
  Back p F (fun v F2 => ∃ q, ∃ (pl : Nat) (un : Int) (st : Bool), v = .ref q ∧ SqT K F2 q [.int (pl : Int), .int un, .bl st] ∧ OneR c a g f run lim pl un st) Q
def sp_law_limits (K : PySem.W.Frag) : Sp := fun vs H Q _ => ∃ (p : Wd) (F : Hp) (ca aa ga gt r : Addr) (c : List Int) (a : Arr) (pp g : List Int) (run : List Nat), vs = [.ref ca, .ref aa, .int (nth pp 0), .ref ga, .ref gt, .ref r] ∧ At p F H ∧ IT K F ca c ∧ AT K F aa a ∧ IT K F ga g ∧ SqL K F gt [] ∧ Ch c a ∧ Mt c a pp g ∧ RunT K F r run ∧ IsRun a 0 run ∧ run.length ≤ 6 ∧
  Back p F (fun v F2 => ∃ q, ∃ (ns : List Int), v = .ref q ∧ F2 q = some (.lst (ns.map V.int)) ∧ ns ≠ [] ∧ ns.length ≤ 60 ∧ ∀ x ∈ ns, 0 ≤ x ∧ x ≤ 10000000000000) Q
def sp_law_some (K : PySem.W.Frag) : Sp := fun vs H Q _ => ∃ (p : Wd) (F : Hp) (h t : Addr) (ns : List Int) (many : Nat), vs = [.ref h, .ref t, .int (many : Int)] ∧ At p F H ∧ Hnd K p F h ∧ SqL K F t (ns.map V.int) ∧ 2 ≤ many ∧ many ≤ 100 ∧ ns.length ≤ 100 ∧ Back p F (fun v F2 => ∃ q, ∃ (ys : List Int), v = .ref q ∧ SqL K F2 q (ys.map V.int) ∧ ∀ y ∈ ys, y ∈ ns) Q
def sp_law (K : PySem.W.Frag) : Sp := fun vs H Q _ => ∃ (s : Addr) (ns : List Int), vs = [.ref s] ∧ SqL K H s (ns.map V.int) ∧ ns.length ≤ 63 ∧ ∀ H', Q (.bl true) H'
/-! ### a taking -/
section
variable {K : PySem.W.Frag} {p : Wd} {F : Hp} {σ : L2.St} {t : TA} {h : Addr} {many : Int} {n : Nat} {E : XK}
theorem ev_takeI (ha : EvA p t σ F [.ref h, .int many]) (hh : Hnd K p F h) (h1 : 1 ≤ many) (h2 : many ≤ 10000000000000000) : EvP p (tCall (sp_law_take K) [] E t) σ F (fun v _ => ∃ k : Int, v = .int k ∧ 0 ≤ k ∧ k < many) :=
  ev_call ha fun F1 H s a Q k => ⟨p, F1, h, many, rfl, a, hh.mono s, h1, h2, fun v v0 v1 H' a' => k _ F1 H' (Same.refl _) a' ⟨v, rfl, v0, v1⟩⟩
theorem ev_take (ha : EvA p t σ F [.ref h, .int (n : Int)]) (hh : Hnd K p F h) (h1 : 1 ≤ n) (h2 : n ≤ 10000000000000000) : EvP p (tCall (sp_law_take K) [] E t) σ F (fun v _ => ∃ k : Nat, v = .int (k : Int) ∧ k < n) :=
  (ev_takeI ha hh (by omega) (by omega)).imp fun v F2 _ ⟨k, ev, k0, k1⟩ => ⟨k.toNat, by rw [ev]; congr 1; omega, by omega⟩
theorem et_takeP (ha : EvA p t σ F [.ref h, .int (n : Int)]) (hh : Hnd K p F h) (h1 : 1 ≤ n) (h2 : n ≤ 10000000000000000) : EvTP p (tTru K (tCall (sp_law_take K) [] E t)) σ F (fun _ => True) :=
  et_truP (ev_take ha hh h1 h2) fun v F1 H _ ⟨k, ev, _⟩ _ => by
    subst ev
    exact ⟨_, rfl, True.intro⟩
end
section
variable {K : PySem.W.Frag} {p : Wd} {F F' : Hp} {σ : L2.St} {ta tb : TE} {as : List Addr} {ps : List (V × V)} {b : Addr} {x y : V} {lo hi : Int}
theorem pairs_snoc (h : PairsAt K F as ps) (hb : SqT K F b [x, y]) : PairsAt K F (as ++ [b]) (ps ++ [(x, y)]) := by
  refine ⟨by rw [List.length_append, List.length_append, h.1]; rfl, fun i c e => ?_⟩
  rw [List.getElem?_append] at e
  split at e
  · rename_i hi
    obtain ⟨pr, e1, e2⟩ := h.2 i c e
    exact ⟨pr, by rw [List.getElem?_append_left (by rw [← h.1]; exact hi)]; exact e1, e2⟩
  · rename_i hi
    have hj : i - as.length = 0 := by
      cases h0 : i - as.length with
      | zero => rfl
      | succ k => rw [h0] at e; cases e
    rw [hj] at e
    obtain rfl := Option.some.inj e
    have ei : i = ps.length := by have := h.1; omega
    subst ei
    exact ⟨(x, y), by rw [List.getElem?_append_right (Nat.le_refl _), Nat.sub_self]; rfl, hb⟩
theorem prs_append (a b : Arr) : prs (a ++ b) = prs a ++ prs b := List.map_append ..
theorem ev_lstRg (ha : Ev p ta σ F (.int lo)) (hb : Ev p tb σ F (.int hi)) (h : RgOk lo hi) : EvP p (tLstRg (tRg2 ta tb)) σ F (NewP F (.lst (rgV lo hi))) := fun F1 H e at1 Q k =>
  ha F1 H e at1 _ fun H2 a2 => hb F1 H2 e a2 _ fun H3 a3 => ⟨lo, hi, rfl, rfl, h, fun l hl => k _ _ _ (same_new (a3.free hl)) (a3.new hl) ⟨l, rfl, e.free (a3.free hl), upd_same⟩⟩
theorem ev_tupRg (ha : Ev p ta σ F (.int hi)) (h : RgOk 0 hi) : EvP p (tTupRg (tRg1 ta)) σ F (NewP F (.tup (rgV 0 hi))) := fun F1 H e at1 Q k =>
  ha F1 H e at1 _ fun H3 a3 => ⟨hi, rfl, h, fun l hl => k _ _ _ (same_new (a3.free hl)) (a3.new hl) ⟨l, rfl, e.free (a3.free hl), upd_same⟩⟩
end
section
variable {K : PySem.W.Frag} {p : Wd} {F : Hp} {H : Hp} {σ : L2.St} {te tN tR : TE} {R N : Addr} {xs ys : List V} {D : Ends}
/-- own.append(other.pop(e)) -/
theorem st_popApp (a : At (.own (.own p R (.lst xs)) N (.lst ys)) F H) (hN : Ev (.own (.own p R (.lst xs)) N (.lst ys)) tN σ F (.ref N)) (hR : Ev (.own (.own p R (.lst xs)) N (.lst ys)) tR σ F (.ref R))
    (ht : EvP (.own (.own p R (.lst xs)) N (.lst ys)) te σ F (fun v _ => ∃ k : Nat, v = .int (k : Int) ∧ k < xs.length)) (hl : xs.length ≤ 1000000) (hz : ys.length < 100000)
    (k : ∀ (k : Nat) y F1 H1, xs[k]? = some y → Same F F1 → At (.own (.own p R (.lst (xs.eraseIdx k))) N (.lst (ys ++ [y]))) F1 H1 → D.nx σ H1) : tDrop (tBM K "list" rAppend tN (tCons (tBM K "list" rPopAt tR (tCons te tNil)) tNil)) D σ H :=
  hN F H (Same.refl _) a _ fun H1 a1 => ⟨tyv_lst a1.mine_at, hR F H1 (Same.refl _) a1 _ fun H2 a2 => ⟨tyv_lst a2.swap.mine_at, ht F H2 (Same.refl _) a2 _ fun v F3 H3 s3 a3 ⟨m, ev, hm⟩ => by
    subst ev
    have a4 := a3.swap
    have e1 : xs[m]? = some xs[m] := List.getElem?_eq_getElem hm
    have a5 : At (.own (.own p N (.lst ys)) R (.lst (xs.eraseIdx m))) F3 (upd H3 R (.lst (xs.eraseIdx m))) := a4.put
    refine ⟨R, xs, (m : Int), m, xs[m], rfl, rfl, a4.mine_at, by omega, by omega, ?_, e1, ?_⟩
    · unfold seqIndex?
      simp
      omega
    · exact ⟨N, ys, _, rfl, rfl, a5.swap.mine_at, Nat.lt_of_lt_of_le hz (by decide), k m _ F3 _ e1 s3 a5.swap.put⟩⟩⟩
end
section
variable {K : PySem.W.Frag} {p : Wd} {F : Hp} {H : Hp} {σ : L2.St} {ta tb : TE} {a : Addr} {xs : List V} {k : Nat}
theorem cut_from : cutV xs (some (k : Int)) none = xs.drop k := by
  unfold cutV
  rw [HT.sIx_nat, HT.sIx_none]
  by_cases h : k ≤ xs.length
  · rw [Nat.min_eq_left h]
    exact List.take_of_length_le (by rw [List.length_drop]; exact Nat.le_refl _)
  · rw [Nat.min_eq_right (by omega), Nat.sub_self, List.take_zero, List.drop_eq_nil_of_le (by omega)]
theorem cut_upto : cutV xs none (some (k : Int)) = xs.take k := by
  unfold cutV
  rw [HT.sIx_nat, HT.sIx_none, List.drop_zero, Nat.sub_zero]
  by_cases h : k ≤ xs.length
  · rw [Nat.min_eq_left h]
  · rw [Nat.min_eq_right (by omega), List.take_length, List.take_of_length_le (by omega)]
theorem ev_from (ha : Ev p ta σ F (.ref a)) (hb : Ev p tb σ F (.int (k : Int))) (h : SqL K F a xs) : EvP p (tSl (rSlL K) ta (tPart tb) tNoPart) σ F (NewP F (.lst (xs.drop k))) := fun F1 H e at1 Q q =>
  ha F1 H e at1 _ fun H2 a2 => hb F1 H2 e a2 _ fun H3 a3 => ⟨_, rfl, a, xs, rfl, a3.l (e.seq h), fun l hl => q _ _ _ (same_new (a3.free hl)) (a3.new hl) ⟨l, rfl, e.free (a3.free hl), by rw [cut_from]; exact upd_same⟩⟩
theorem ev_upto (ha : Ev p ta σ F (.ref a)) (hb : Ev p tb σ F (.int (k : Int))) (h : SqL K F a xs) : EvP p (tSl (rSlL K) ta tNoPart (tPart tb)) σ F (NewP F (.lst (xs.take k))) := fun F1 H e at1 Q q =>
  ha F1 H e at1 _ fun H2 a2 => hb F1 H2 e a2 _ fun H3 a3 => ⟨_, rfl, a, xs, rfl, a3.l (e.seq h), fun l hl => q _ _ _ (same_new (a3.free hl)) (a3.new hl) ⟨l, rfl, e.free (a3.free hl), by rw [cut_upto]; exact upd_same⟩⟩
/-- a taken number, looked at -/
theorem et_takeEq {E : XK} {t : TA} {h : Addr} {n : Nat} {v : V} (ha : EvA p t σ F [.ref h, .int (n : Int)]) (hh : Hnd K p F h) (h1 : 1 ≤ n) (h2 : n ≤ 10000000000000000) (hv : ∀ k : Nat, scal (.int (k : Int)) v = true) : EvTP p (tTest (tOp rEq (tCall (sp_law_take K) [] E t) (tC v))) σ F (fun _ => True) :=
  et_testP (ev_opP (P := fun v _ => ∃ b, v = .bl b ∧ True) (Pb := fun _ y _ => y = v) (ev_take ha hh h1 h2) (fun x F1 s _ => Ev.toP ev_c) fun x y F1 F2 H2 s1 ⟨k, ex, _⟩ s2 ey a2 Q k' => by
    subst ex ey
    exact ⟨hv k, k' _ F2 H2 (Same.refl _) a2 ⟨_, rfl, True.intro⟩⟩)
end
section
variable {K : PySem.W.Frag} {p : Wd} {F F' : Hp} {H : Hp} {σ : L2.St} {ta tb : TE} {a q : Addr} {o : HO} {xs : List V} {k : Nat} {i : Int} {ns : List Int}
theorem Sq.up (h : Sq K p F a xs) : Sq K (.own p q o) F a xs := by
  rcases h with h | h | h
  · exact .inl h
  · exact .inr (.inl h)
  · exact .inr (.inr (.inr h))
theorem inV_ints : ∀ ns : List Int, inV (.int i) (ns.map V.int) = decide (i ∈ ns)
  | [] => rfl
  | n :: ns => by
    have e : inV (.int i) ((n :: ns).map V.int) = ((n == i) || inV (.int i) (ns.map V.int)) := rfl
    rw [e, inV_ints ns]
    by_cases h : n = i
    · subst h; simp
    · have h' : ¬ i = n := fun z => h z.symm
      simp [h, h']
theorem flat_ints : ∀ ns : List Int, (ns.map V.int).all flatV = true
  | [] => rfl
  | n :: ns => by
    have e : ((n :: ns).map V.int).all flatV = (ns.map V.int).all flatV := rfl
    rw [e]
    exact flat_ints ns
theorem ev_ni (ha : Ev p ta σ F (.int i)) (hb : Ev p tb σ F (.ref a)) (h : Sq K p F a (ns.map V.int)) : Ev p (tOp (rIn K true) ta tb) σ F (.bl (!decide (i ∈ ns))) := ev_opV ha hb fun F1 H e at1 Q q =>
  ⟨a, _, rfl, at1.s (h.mono e), rfl, flat_ints ns, by rw [inV_ints]; exact q⟩
end
end PA
namespace PA
open PySem PyProof.Rows L2
section
variable {P : Program} {w : World} {K : PySem.W.Frag} {mg : Str → Option Value} {base : Heap}
abbrev st_is_whole : Stmt := top 12
theorem sc_is_whole : FnScope ["thing", "low", "high"] ["thing", "low", "high"] (defScope st_is_whole) := ⟨rfl, rfl, rfl, by decide +kernel, rfl, by decide +kernel, by decide +kernel⟩
theorem cal_is_whole (M : Bl mg) {C : Cs} (T : Tx K C.c C.m C.s) (D : Df K mg "is_whole" st_is_whole ["thing", "low", "high"]) : Cal P w K mg base 1 "is_whole" sp_is_whole := by
  refine cal_of D sc_is_whole (fun vs H Q E h => ?_) (fun f cdv A outer s H vs Q E hr h => ?_)
  · obtain ⟨p, F, i, lo, hi, rfl, _⟩ := h
    rfl
  · have sc := sc_is_whole
    refine ⟨_, (pss_one
      (ps_ret (pe_and (pe_callB (isi_K (K := K)) rfl M.b_isinstance bt_isinstance (pa_cons (pv 0) (pa_cons (pe_bltn (v := .ty "int") rfl M.b_int bt_int rfl) pa_nil))) (pe_and (pe_not (pe_callB (isi_K (K := K)) rfl M.b_isinstance bt_isinstance (pa_cons (pv 0) (pa_cons (pe_bltn (v := .ty "bool") rfl M.b_bool bt_bool rfl) pa_nil)))) (pe_one (pe_chain op_le op_le (pv 1) (pv 0) (pv 2))))))), ?_⟩
    obtain ⟨p, F, i, lo, hi, rfl, at0, k⟩ := h
    exact st_retV at0 (ev_andV (ev_isInt (ev_var rfl)) fun _ => ev_andV (ev_notV (ev_isBool (ev_var rfl))) fun _ => ev_chain (ev_var rfl) (ev_var rfl) (fun _ => ev_var rfl) (fun _ _ _ _ _ q => ⟨_, _, rfl, rfl, q⟩) (fun _ _ _ _ _ _ q => ⟨_, _, rfl, rfl, q⟩)) k
end
end PA
namespace PA
open PySem PyProof.Rows L2
section
variable {P : Program} {w : World} {K : PySem.W.Frag} {mg : Str → Option Value} {base : Heap}
abbrev st_is_row : Stmt := top 13
theorem sc_is_row : FnScope ["thing", "least", "most"] ["thing", "least", "most"] (defScope st_is_row) := ⟨rfl, rfl, rfl, by decide +kernel, rfl, by decide +kernel, by decide +kernel⟩
theorem cal_is_row (M : Bl mg) {C : Cs} (T : Tx K C.c C.m C.s) (D : Df K mg "is_row" st_is_row ["thing", "least", "most"]) : Cal P w K mg base 1 "is_row" (sp_is_row K) := by
  refine cal_of D sc_is_row (fun vs H Q E h => ?_) (fun f cdv A outer s H vs Q E hr h => ?_)
  · obtain ⟨p, F, a, xs, lo, hi, rfl, _⟩ := h
    rfl
  · have sc := sc_is_row
    refine ⟨_, (pss_one
      (ps_ret (pe_and (pe_callB (isiT_K (K := K)) rfl M.b_isinstance bt_isinstance (pa_cons (pv 0) (pa_cons (pe_tup (pa_cons (pe_bltn (v := .ty "list") rfl M.b_list bt_list rfl) (pa_cons (pe_bltn (v := .ty "tuple") rfl M.b_tuple bt_tuple rfl) pa_nil))) pa_nil))) (pe_one (pe_chain op_le op_le (pv 1) (pe_callB (call_lenK (K := K)) rfl M.b_len bt_len (pa_cons (pv 0) pa_nil)) (pv 2)))))), ?_⟩
    obtain ⟨p, F, a, xs, lo, hi, rfl, at0, hx, k⟩ := h
    exact st_retV at0 (ev_andV (ev_isRow (ev_var rfl) hx) fun _ => ev_chain (ev_var rfl) (ev_len (ev_var rfl) (hx.elim .l .t)) (fun _ => ev_var rfl) (fun _ _ _ _ _ q => ⟨_, _, rfl, rfl, q⟩) (fun _ _ _ _ _ _ q => ⟨_, _, rfl, rfl, q⟩)) k
end
end PA
namespace PA
open PySem PyProof.Rows L2
section
variable {P : Program} {w : World} {K : PySem.W.Frag} {mg : Str → Option Value} {base : Heap}
theorem rca_start {a : Arr} {n : Nat} (h1 : 1 ≤ n) : RcA a n [0] ((List.range n).map fun j => decide (j = 0)) (1 + falses ((List.range n).map fun j => decide (j = 0))) := by
  have g : ∀ j : Nat, ((List.range n).map fun j => decide (j = 0))[j]? = some true → j = 0 := fun j h => by
    rw [List.getElem?_map] at h
    cases hj : (List.range n)[j]? with
    | none => rw [hj] at h; cases h
    | some y =>
      rw [hj] at h
      obtain ⟨hl, e⟩ := List.getElem?_eq_some_iff.mp hj
      rw [List.getElem_range] at e
      subst e
      simpa using h
  have z : ((List.range n).map fun j => decide (j = 0))[0]? = some true := by
    rw [List.getElem?_map, List.getElem?_range h1]
    rfl
  refine ⟨by simp, z, fun x hx => ?_, fun e he h2 h3 => ?_, rfl⟩
  · rw [List.mem_singleton.mp hx]
    exact ⟨h1, z⟩
  · exact absurd (List.mem_singleton.mpr (g _ h2)) h3
def J_rp (p : Wd) (a : Arr) (n : Nat) (aa Rc Fd : Addr) : Nat → L2.St → Wd → Hp → Prop := fun m σ' p' _ => ∃ (fd : List Nat) (rc : List Bool) (v4 v5 v6 : Option V), σ' = [some (.int (n : Int)), some (.ref aa), some (.ref Rc), some (.ref Fd), v4, v5, v6] ∧
  p' = .own (.own p Rc (.lst (rc.map V.bl))) Fd (.lst (fd.map fun (x : Nat) => V.int (x : Int))) ∧ RcA a n fd rc m ∧ m ≤ 100
def J_rp2 (p : Wd) (a : Arr) (n x m : Nat) (aa Rc Fd : Addr) : LJ := fun k σ' p' _ => ∃ (fd : List Nat) (rc : List Bool) (v5 v6 : Option V), σ' = [some (.int (n : Int)), some (.ref aa), some (.ref Rc), some (.ref Fd), some (.int (x : Int)), v5, v6] ∧
  p' = .own (.own p Rc (.lst (rc.map V.bl))) Fd (.lst (fd.map fun (x : Nat) => V.int (x : Int))) ∧ RcB a n x k fd rc m
abbrev st_reached_places : Stmt := top 16
theorem sc_reached_places : FnScope ["many", "arrows", "reached", "found", "place", "tail", "head"] ["many", "arrows"] (defScope st_reached_places) := ⟨rfl, rfl, rfl, by decide +kernel, rfl, by decide +kernel, by decide +kernel⟩
theorem cal_reached_places (M : Bl mg) {C : Cs} (T : Tx K C.c C.m C.s) (D : Df K mg "reached_places" st_reached_places ["many", "arrows"]) : Cal P w K mg base 1 "reached_places" (sp_reached_places K) := by
  refine cal_of D sc_reached_places (fun vs H Q E h => ?_) (fun f cdv A outer s H vs Q E hr h => ?_)
  · obtain ⟨p, F, aa, a, n, rfl, _⟩ := h
    rfl
  · have sc := sc_reached_places
    refine ⟨_, (pss_cons
      (ps_setLc (i := 2) (own := [("place", 4)]) rfl sc.nd rfl rfl (sw_true rfl rfl rfl (by kernel_rfl)) (pi_range1 rfl M.b_range (pa_cons (pv 0) pa_nil)) (blkOk_by (by kernel_rfl)) (fun _ _ _ _ _ => (pg_name (i := 4) sc.nd rfl (Or.inl rfl))) (fun _ _ _ _ _ => pts_nil) (fun _ _ _ _ _ => (pe_cmpR op_eq (pv 4) pe_int (nomark _))))
      (pss_cons
      (ps_set (i := 3) sc.nd rfl (Or.inl rfl) (pe_lst (pa_cons pe_int pa_nil)))
      (pss_cons
      (ps_while PassesOwn.never (pt_truK (K := K) rfl (pv 3))
      (pss_cons
      (ps_set (i := 4) sc.nd rfl (Or.inl rfl) (pe_bm0 PySem.F.plainAttrs_list PySem.F.slot_list_pop PySem.F.type_list_pop mt_pop (pv 3)))
      (pss_one
      (ps_for PassesOwn.never rfl (pi_tupK (K := K) rfl (pv 1)) (pg_tupK (K := K) (n := 2) rfl rfl (pgs_cons (pg_name (i := 5) sc.nd rfl (Or.inl rfl)) (pgs_cons (pg_name (i := 6) sc.nd rfl (Or.inl rfl)) pgs_nil)))
      (pss_one
      (ps_if (PW.pt (pw_and (pt_cmpR op_eq (pv 5) (pv 4) (nomark _)) (pw_and1 (pt_not (pt_truK (K := K) rfl (pe_ix (ix_K (K := K)) (pv 2) (pv 6) (fun _ _ => rfl)))))))
      (pss_cons
      (ps_asg pe_bl (pg_sub (pv 2) (pv 6) set_list))
      (pss_one
      (ps_expr (pe_bm PySem.F.plainAttrs_list PySem.F.slot_list_append PySem.F.type_list_append mt_append (pv 3) (pa_cons (pv 6) pa_nil)))))
      pss_nil))))))
      (pss_one
      (ps_ret (pv 2)))))), ?_⟩
    obtain ⟨p, F, aa, a, n, rfl, at0, ⟨as, ha, hp⟩, hn1, hn2, hends, hrch, q⟩ := h
    refine sq (st_asgLc at0 (ev_lcR (J := fun i acc _ => acc = (List.range i).map fun j => V.bl (decide (j = 0))) (ea_cons (ev_var rfl) ea_nil) (by omega) (fun _ => rfl) (fun _ _ => rfl) fun i acc F' p' hi s' j hl hD => LcT.all ((ev_eq (ev_var rfl) ev_c rfl).toPP fun F2 _ => ?_)) fun Rc xs F1 H1 s1 nR at1 ⟨_, ex⟩ => ?_)
    · rw [j, List.range_succ, List.map_append]
      congr 2
      show V.bl (decide (V.int (i : Int) = V.int 0)) = V.bl (decide (i = 0))
      exact congrArg V.bl (decide_eq_decide.mpr ⟨fun e => by have := V.int.inj e; omega, fun e => by subst e; rfl⟩)
    · have ex' : xs = ((List.range n).map fun j => decide (j = 0)).map V.bl := by rw [ex, List.map_map]; rfl
      subst ex'
      refine sq (st_asgM at1 (ev_lst (ea_cons ev_c ea_nil) (show 1 ≤ 100000 by decide)) fun Fd H2 nF at2 => ?_)
      refine sq (st_while (J_rp p a n aa Rc Fd) _ at2 ⟨[0], _, none, none, none, rfl, rfl, rca_start hn1, by have := falses_le ((List.range n).map fun j => decide (j = 0)); rw [List.length_map, List.length_range] at this; omega⟩ ?_)
      rintro m σ' p' F2 H' s2 a2 ⟨fd, rc, v4, v5, v6, rfl, rfl, hrc, hm100⟩
      refine ⟨_, et_seq (ev_var rfl) .own, fun hb H3 a3 => ?_, fun hb H3 a3 => ?_⟩
      · rcases List.eq_nil_or_concat fd with rfl | ⟨fd', x, efd⟩
        · exact absurd hb (by simp)
        · rw [List.concat_eq_append] at efd
          subst efd
          have hm : ∃ m', m = m' + 1 := ⟨m - 1, by have := hrc.me; simp at this; omega⟩
          obtain ⟨m', rfl⟩ := hm
          refine sq (st_pop (y := .int (x : Int)) a3 (ev_var rfl) (by simp) fun H4 a4 => ?_)
          rw [List.map_append, List.map_cons, List.map_nil, List.dropLast_concat] at a4
          refine st_forT2 (J_rp2 p a n x m' aa Rc Fd) a4 (ev_var rfl) (same_t (s1.trans s2) ha) (hp.mono (s1.trans s2)) ⟨fd', rc, v5, v6, rfl, rfl, hrc.pop⟩ ?_ ?_
          · rintro k pr σ' p' F3 H5 hk s3 a5 ⟨fd, rc, w5, w6, rfl, rfl, hb2⟩
            have hkl : k < a.length := by have := (List.getElem?_eq_some_iff.mp hk).1; rw [prs_len] at this; exact this
            rw [prs_get hkl] at hk
            obtain rfl := Option.some.inj hk
            have he := hends _ (ar_mem hkl)
            have hrl : (ar a k).2 < rc.length := by rw [hb2.len]; exact he.2
            have hrb : rc[(ar a k).2]? = some rc[(ar a k).2] := List.getElem?_eq_getElem hrl
            by_cases hx : (ar a k).1 = x ∧ rc[(ar a k).2] = false
            · refine st_yes a5 ((et_and (et_test (ev_eq (ev_var rfl) (ev_var rfl) rfl)) fun _ => et_not (et_bl (ev_ix (ev_var rfl) (ev_var rfl) .own2 (at_get (by rw [List.getElem?_map, hrb]; rfl))))).is (by rw [hx.1, hx.2]; simp)) fun H6 a6 => ?_
              refine sq (st_set a6.swap (Ev.toP ev_c) (ev_var rfl) (ev_var rfl) (by rw [List.length_map]; exact hrl) fun v F4 H7 s4 a7 ev => ?_)
              subst ev
              refine st_app a7.swap (ev_var rfl) (Ev.toP (ev_var rfl)) ?_ fun v F5 H8 s5 a8 ev => ?_
              · have e1 := hb2.me
                rw [List.length_map]
                omega
              · subst ev
                exact ⟨_, F5, s3.trans (s4.trans s5), a8, fd ++ [(ar a k).2], rc.set (ar a k).2 true, _, _, rfl, by rw [List.map_set, List.map_append]; rfl, hb2.push hkl he.2 (by rw [hrb, hx.2])⟩
            · refine st_no a5 ((et_and (et_test (ev_eq (ev_var rfl) (ev_var rfl) rfl)) fun _ => et_not (et_bl (ev_ix (ev_var rfl) (ev_var rfl) .own2 (at_get (by rw [List.getElem?_map, hrb]; rfl))))).is ?_) fun H6 a6 => ?_
              · by_cases h1 : (ar a k).1 = x
                · rw [h1]
                  have : rc[(ar a k).2] = true := by
                    cases hh : rc[(ar a k).2] with
                    | true => rfl
                    | false => exact absurd ⟨h1, hh⟩ hx
                  rw [this]
                  simp
                · have : ¬ (V.int ((ar a k).1 : Int) = V.int (x : Int)) := fun e => h1 (by have := V.int.inj e; omega)
                  rw [decide_eq_false this]
                  rfl
              · refine ⟨_, F3, s3, a6, fd, rc, _, _, rfl, rfl, hb2.skip ?_⟩
                by_cases h1 : (ar a k).1 = x
                · refine .inr ?_
                  rw [hrb]
                  cases hh : rc[(ar a k).2] with
                  | true => rfl
                  | false => exact absurd ⟨h1, hh⟩ hx
                · exact .inl h1
          · rintro σ' p' F3 H5 s3 a5 ⟨fd, rc, w5, w6, rfl, rfl, hb2⟩
            rw [prs_len] at hb2
            exact ⟨m', Nat.lt_succ_self _, _, F3, s2.trans s3, a5, fd, rc, _, _, _, rfl, rfl, hb2.done, by omega⟩
      · have hf : fd = [] := by simpa using hb
        subst hf
        refine st_retV a3.give.give (ev_var rfl) fun H4 a4 => q _ _ _ (s1.trans (s2.trans (a3.give_same.trans a3.give.give_same))) a4 ⟨Rc, rfl, nR, ?_⟩
        rw [upd_same]
        congr 2
        refine List.ext_getElem? fun i => ?_
        rw [List.getElem?_map, List.getElem?_replicate]
        by_cases hi : i < n
        · rw [if_pos hi, hrc.all (hrch i hi)]
          rfl
        · rw [if_neg hi, List.getElem?_eq_none (by rw [hrc.len]; omega)]
          rfl
end
end PA
namespace PA
open PySem PyProof.Rows L2
section
variable {P : Program} {w : World} {K : PySem.W.Frag} {mg : Str → Option Value} {base : Heap}
abbrev st_stop_init : Stmt := inClass (top 47) 0
theorem sc_stop_init : FnScope ["self", "places", "unused"] ["self", "places", "unused"] (defScope st_stop_init) := ⟨rfl, rfl, rfl, by decide +kernel, rfl, by decide +kernel, by decide +kernel⟩
theorem cal_stop_init (M : Bl mg) {C : Cs} (T : Tx K C.c C.m C.s) (D : Dc K mg "Stop" "Stop.__init__" C.s st_stop_init ["self", "places", "unused"]) : Mak P w K mg base 1 "Stop" C.s (sp_stop_init C) := by
  refine mak_of D sc_stop_init (fun vs H Q E h => ?_) (fun f cdv A outer s H vs Q E hr h => ?_)
  · obtain ⟨p, F, x, dx, pl, un, rfl, _⟩ := h
    rfl
  · have sc := sc_stop_init
    refine ⟨_, (pss_cons
      (ps_fld (pv 0) (pv 1) rfl)
      (pss_one
      (ps_fld (pv 0) (pv 2) rfl))), ?_⟩
    obtain ⟨p, F, x, dx, pl, un, rfl, at0, q⟩ := h
    refine sq (st_fld at0 (Ev.toP (ev_var rfl)) (ev_var rfl) T.s T.s_places (by decide) fun v F1 H1 s1 a1 ev => ?_)
    subst ev
    refine st_fld a1 (Ev.toP (ev_var rfl)) (ev_var rfl) T.s T.s_unused (by show 1 < 1000; decide) fun v F2 H2 s2 a2 ev => ?_
    subst ev
    exact q _ _ (a2.less (s1.trans s2)) rfl rfl
end
end PA
namespace PA
open PySem PyProof.Rows L2
section
variable {P : Program} {w : World} {K : PySem.W.Frag} {mg : Str → Option Value} {base : Heap}
abbrev st_arrow_gain : Stmt := top 20
theorem sc_arrow_gain : FnScope ["meter", "arrow"] ["meter", "arrow"] (defScope st_arrow_gain) := ⟨rfl, rfl, rfl, by decide +kernel, rfl, by decide +kernel, by decide +kernel⟩
theorem cal_arrow_gain (M : Bl mg) {C : Cs} (T : Tx K C.c C.m C.s) (D : Df K mg "arrow_gain" st_arrow_gain ["meter", "arrow"]) : Cal P w K mg base 1 "arrow_gain" (sp_arrow_gain K C) := by
  refine cal_of D sc_arrow_gain (fun vs H Q E h => ?_) (fun f cdv A outer s H vs Q E hr h => ?_)
  · obtain ⟨p, F, m, c, a, pp, g, k, rfl, _⟩ := h
    rfl
  · have sc := sc_arrow_gain
    refine ⟨_, (pss_one
      (ps_ret (pe_op op_sub (pe_ix (ix_K (K := K)) (pe_fldK (K := K) rfl (pv 0) rfl) (pv 1) (fun _ _ => rfl)) (pe_ix (ix_K (K := K)) (pe_fldK (K := K) rfl (pe_fldK (K := K) rfl (pv 0) rfl) rfl) (pe_ix (ix_K (K := K)) (pe_ix (ix_K (K := K)) (pe_fldK (K := K) rfl (pe_fldK (K := K) rfl (pv 0) rfl) rfl) (pv 1) (fun _ _ => rfl)) pe_int (fun _ _ => rfl)) (fun _ _ => rfl))))), ?_⟩
    obtain ⟨p, F, m, c, a, pp, g, k, rfl, at0, mw, hk, q⟩ := h
    obtain ⟨ga, e1, h1⟩ := mw.h.charges T (te := tVar 0) (σ := start ["meter", "arrow"] [.ref m, .int (k : Int)]) (p := p) (ev_var rfl)
    obtain ⟨x, e2, h2⟩ := mw.h.chart T (te := tVar 0) (σ := start ["meter", "arrow"] [.ref m, .int (k : Int)]) (p := p) (ev_var rfl)
    obtain ⟨ca, e3, h3⟩ := h2.costs T e2
    obtain ⟨aa, e4, h4⟩ := h2.arrows T e2
    have e := mw.mt.gk k hk
    refine st_retV at0 ((ev_sub (ev_ii e1 (ev_var rfl) h1.s (by rw [mw.mt.gl]; exact hk)) (ev_ii e3 (ev_a0 e4 (ev_var rfl) h4 hk) h3.s (mw.ch.ar hk).1)).is ?_) q
    congr 1
    omega
end
end PA
namespace PA
open PySem PyProof.Rows L2
section
variable {P : Program} {w : World} {K : PySem.W.Frag} {mg : Str → Option Value} {base : Heap}
def J_cd (p : Wd) (tb : Addr) (st left : Nat) : LJ := fun _ σ' p' _ => ∃ v4 v5 v6 : Option V, p' = p ∧ σ' = [some (.ref tb), some (.int (st : Int)), some (.int (left : Int)), some (.int 0), v4, v5, v6]
abbrev st_can_drift : Stmt := top 22
theorem sc_can_drift : FnScope ["tables", "place", "left", "gained", "sense", "rows", "rest"] ["tables", "place", "left", "gained"] (defScope st_can_drift) := ⟨rfl, rfl, rfl, by decide +kernel, rfl, by decide +kernel, by decide +kernel⟩
theorem cal_can_drift (M : Bl mg) {C : Cs} (T : Tx K C.c C.m C.s) (D : Df K mg "can_drift" st_can_drift ["tables", "place", "left", "gained"]) : Cal P w K mg base 1 "can_drift" (sp_can_drift K) := by
  refine cal_of D sc_can_drift (fun vs H Q E h => ?_) (fun f cdv A outer s H vs Q E hr h => ?_)
  · obtain ⟨p, F, tb, st, n, m, left, pp, rfl, _⟩ := h
    rfl
  · have sc := sc_can_drift
    refine ⟨_, (pss_cons
      (ps_for PassesOwn.never rfl (pi_listK (K := K) rfl (pv 0)) (pg_tupK (K := K) (n := 2) rfl rfl (pgs_cons (pg_name (i := 4) sc.nd rfl (Or.inl rfl)) (pgs_cons (pg_name (i := 5) sc.nd rfl (Or.inl rfl)) pgs_nil)))
      (pss_cons
      (ps_set (i := 6) sc.nd rfl (Or.inl rfl) (pe_ix (ix_K (K := K)) (pe_ix (ix_K (K := K)) (pv 5) (pv 2) (fun _ _ => rfl)) (pv 1) (fun _ _ => rfl)))
      (pss_one
      (ps_if (PW.pt (pw_and (pt_cmpR o_notN (pv 6) pe_non (nomark _)) (pw_and1 (pt_cmpR op_gt (pe_op op_add (pe_op op_mul (pv 4) (pv 3)) (pv 6)) pe_int (nomark _)))))
      (pss_one
      (ps_ret pe_bl))
      pss_nil))))
      (pss_one
      (ps_ret pe_bl))), ?_⟩
    obtain ⟨p, F, tb, st, n, m, left, pp, rfl, at0, ⟨ts, h1, h2, h3⟩, hst, hleft, q⟩ := h
    refine sq (st_forL (J_cd p tb st left) at0 (ev_var rfl) h1 ⟨none, none, none, rfl, rfl⟩ ?_ ?_)
    · rintro i y σ' p' F2 H' hi s2 a2 ⟨v4, v5, v6, rfl, rfl⟩
      rw [List.getElem?_map] at hi
      cases hb : ts[i]? with
      | none => rw [hb] at hi; cases hi
      | some t =>
        rw [hb] at hi
        obtain rfl := Option.some.inj hi
        obtain ⟨s, rw', e1, hs, rs, e2, e3, e4⟩ := h3 t (List.mem_of_getElem? hb)
        have hl : left < rs.length := by omega
        obtain ⟨row, r1, r2, _⟩ := e4 left rs[left] (List.getElem?_eq_getElem hl)
        refine gt2 (a2.t (same_t s2 e1)) ?_
        rcases r2.get hst with hx | hx
        · refine sq (st_asgV a2 (ev_ix (ev_ix (ev_var rfl) (ev_var rfl) (.l (s2.seq e2)) (at_get (by rw [List.getElem?_map, List.getElem?_eq_getElem hl]; rfl))) (ev_var rfl) (.l (s2.seq r1)) (at_get hx)) fun H3 a3 => ?_)
          exact st_no a3 ((et_and (c := false) (et_test (ev_notN (ev_var rfl))) fun z => absurd z (by simp)).is (by simp)) fun H4 a4 => ⟨_, F2, s2, a4, _, _, _, rfl, rfl⟩
        · refine sq (st_asgV a2 (ev_ix (ev_ix (ev_var rfl) (ev_var rfl) (.l (s2.seq e2)) (at_get (by rw [List.getElem?_map, List.getElem?_eq_getElem hl]; rfl))) (ev_var rfl) (.l (s2.seq r1)) (at_get hx)) fun H3 a3 => ?_)
          exact st_no a3 ((et_and (et_test (ev_notN (ev_var rfl))) fun _ => et_test (ev_gt (ev_add (ev_mul (ev_var rfl) (ev_var rfl) (sgn_mul hs _)) (ev_var rfl)) ev_c)).is (by simp)) fun H4 a4 => ⟨_, F2, s2, a4, _, _, _, rfl, rfl⟩
    · rintro σ' p' F2 H' s2 a2 ⟨v4, v5, v6, rfl, rfl⟩
      exact st_retV (σ := []) (te := tC (.bl false)) (D := { nx := fun x H' => Q V.non H', rt := Q }) a2 ev_c fun H3 a3 => q _ (a3.less s2)
end
end PA
namespace PA
open PySem PyProof.Rows L2
section
variable {P : Program} {w : World} {K : PySem.W.Frag} {mg : Str → Option Value} {base : Heap}
def J_ci (p : Wd) (x ca aa : Addr) : LJ := fun _ σ' p' _ => ∃ v3 v4 v5 v6 v7 v8 : Option V, p' = p ∧ σ' = [some (.ref x), some (.ref ca), some (.ref aa), v3, v4, v5, v6, v7, v8]
def J_ci2 (p : Wd) (x ca aa : Addr) (l : Int) : LJ := fun _ σ' p' _ => ∃ v4 v5 v6 v7 v8 : Option V, p' = p ∧ σ' = [some (.ref x), some (.ref ca), some (.ref aa), some (.int l), v4, v5, v6, v7, v8]
abbrev st_chart_init : Stmt := inClass (top 17) 0
theorem sc_chart_init : FnScope ["self", "costs", "arrows", "last", "index", "cost", "arrow", "place", "reached"] ["self", "costs", "arrows"] (defScope st_chart_init) := ⟨rfl, rfl, rfl, by decide +kernel, rfl, by decide +kernel, by decide +kernel⟩
theorem cal_chart_init (M : Bl mg) {C : Cs} (T : Tx K C.c C.m C.s) (c_is_row : Cal P w K mg base 1 "is_row" (sp_is_row K)) (c_is_whole : Cal P w K mg base 1 "is_whole" sp_is_whole) (c_reached_places : Cal P w K mg base 1 "reached_places" (sp_reached_places K)) (D : Dc K mg "Chart" "Chart.__init__" C.c st_chart_init ["self", "costs", "arrows"]) : Mak P w K mg base 2 "Chart" C.c (sp_chart_init K C) := by
  refine mak_of D sc_chart_init (fun vs H Q E h => ?_) (fun f cdv A outer s H vs Q E hr h => ?_)
  · obtain ⟨p, F, x, dx, ca, aa, c, a, rfl, _⟩ := h
    rfl
  · have sc := sc_chart_init
    refine ⟨_, (pss_cons
      (ps_if (pt_not (pt_truK (K := K) rfl (pe_c c_is_row hr (by decide) rfl (pa_cons (pv 1) (pa_cons pe_int (pa_cons pe_int pa_nil))))))
      (pss_one
      ps_never)
      pss_nil)
      (pss_cons
      (ps_for PassesOwn.never rfl (pi_enK (K := K) rfl rfl M.b_enumerate (pa_cons (pv 1) pa_nil)) (pg_tupK (K := K) (n := 2) rfl rfl (pgs_cons (pg_name (i := 4) sc.nd rfl (Or.inl rfl)) (pgs_cons (pg_name (i := 5) sc.nd rfl (Or.inl rfl)) pgs_nil)))
      (pss_one
      (ps_if (pt_not (pt_truK (K := K) rfl (pe_c c_is_whole hr (by decide) rfl (pa_cons (pv 5) (pa_cons pe_int (pa_cons (pe_op op_pow pe_int pe_int) pa_nil))))))
      (pss_one
      ps_never)
      pss_nil)))
      (pss_cons
      (ps_if (pt_not (pt_truK (K := K) rfl (pe_c c_is_row hr (by decide) rfl (pa_cons (pv 2) (pa_cons pe_int (pa_cons pe_int pa_nil))))))
      (pss_one
      ps_never)
      pss_nil)
      (pss_cons
      (ps_set (i := 3) sc.nd rfl (Or.inl rfl) (pe_op op_sub (pe_callB (call_lenK (K := K)) rfl M.b_len bt_len (pa_cons (pv 1) pa_nil)) pe_int))
      (pss_cons
      (ps_for PassesOwn.never rfl (pi_enK (K := K) rfl rfl M.b_enumerate (pa_cons (pv 2) pa_nil)) (pg_tupK (K := K) (n := 2) rfl rfl (pgs_cons (pg_name (i := 4) sc.nd rfl (Or.inl rfl)) (pgs_cons (pg_name (i := 6) sc.nd rfl (Or.inl rfl)) pgs_nil)))
      (pss_one
      (ps_if (PW.pt (pw_or (pt_not (pt_truK (K := K) rfl (pe_c c_is_row hr (by decide) rfl (pa_cons (pv 6) (pa_cons pe_int (pa_cons pe_int pa_nil)))))) (pw_or (pt_not (pt_truK (K := K) rfl (pe_c c_is_whole hr (by decide) rfl (pa_cons (pe_ix (ix_K (K := K)) (pv 6) pe_int (fun _ _ => rfl)) (pa_cons pe_int (pa_cons (pv 3) pa_nil)))))) (pw_or1 (pt_not (pt_truK (K := K) rfl (pe_c c_is_whole hr (by decide) rfl (pa_cons (pe_ix (ix_K (K := K)) (pv 6) pe_int (fun _ _ => rfl)) (pa_cons pe_int (pa_cons (pv 3) pa_nil))))))))))
      (pss_one
      ps_never)
      pss_nil)))
      (pss_cons
      (ps_for PassesOwn.never rfl (pi_enK (K := K) rfl rfl M.b_enumerate (pa_cons (pe_c c_reached_places hr (by decide) rfl (pa_cons (pe_callB (call_lenK (K := K)) rfl M.b_len bt_len (pa_cons (pv 1) pa_nil)) (pa_cons (pv 2) pa_nil))) pa_nil)) (pg_tupK (K := K) (n := 2) rfl rfl (pgs_cons (pg_name (i := 7) sc.nd rfl (Or.inl rfl)) (pgs_cons (pg_name (i := 8) sc.nd rfl (Or.inl rfl)) pgs_nil)))
      (pss_one
      (ps_if (pt_not (pt_truK (K := K) rfl (pv 8)))
      (pss_one
      ps_never)
      pss_nil)))
      (pss_cons
      (ps_fld (pv 0) (pe_callTy (call_tupK (K := K)) rfl M.b_tuple bt_tuple (pa_cons (pv 1) pa_nil)) rfl)
      (pss_one
      (ps_fld (pv 0) (pe_callTy (call_tupK (K := K)) rfl M.b_tuple bt_tuple (pa_cons (pe_lc (own := [("arrow", 6)]) rfl sc.nd (pi_tupK (K := K) rfl (pv 2)) (blkOk_by (by kernel_rfl)) (fun _ _ _ _ _ => (pg_name (i := 6) sc.nd rfl (Or.inl rfl))) (fun _ _ _ _ _ => pts_nil) (fun _ _ _ _ _ => (pe_callTy (call_tupK (K := K)) rfl M.b_tuple bt_tuple (pa_cons (pv 6) pa_nil)))) pa_nil)) rfl))))))))), ?_⟩
    obtain ⟨p, F, x, dx, ca, aa, c, a, rfl, at0, hc, ⟨as, ha, hp⟩, ch, q⟩ := h
    have n1 := ch.n1
    have n2 := ch.n2
    have nm := ch.m
    refine sq (st_no at0 ((et_not (et_bl (ev_rowc (ea_cons (ev_var rfl) (ea_cons ev_c (ea_cons ev_c ea_nil))) (.inr hc)))).is (by rw [List.length_map]; simp; omega)) fun H1 at1 => ?_)
    refine sq (st_forE2 (J_ci (.own p x (.ins C.c dx [])) x ca aa) at1 (ea_cons (ev_var rfl) ea_nil) (.inr hc) ⟨none, none, none, none, none, none, rfl, rfl⟩ ?_ ?_)
    · rintro i y σ' p' F2 H' hi s2 a2 ⟨v3, v4, v5, v6, v7, v8, rfl, rfl⟩
      have hil : i < c.length := by have := (List.getElem?_eq_some_iff.mp hi).1; rw [List.length_map] at this; exact this
      rw [List.getElem?_map, nth_get hil] at hi
      obtain rfl := Option.some.inj hi
      have h0 := ch.c0 hil
      exact st_no a2 ((et_not (et_bl (ev_whole (ea_cons (ev_var rfl) (ea_cons ev_c (ea_cons ev_p9 ea_nil)))))).is (by simp; omega)) fun H3 a3 => ⟨_, F2, s2, a3, _, _, _, _, _, _, rfl, rfl⟩
    rintro σ' p' F2 H' s2 a2 ⟨v3, v4, v5, v6, v7, v8, rfl, rfl⟩
    have hal : (as.map V.ref).length = a.length := by rw [List.length_map, hp.1, prs_len]
    refine sq (st_no a2 ((et_not (et_bl (ev_rowc (ea_cons (ev_var rfl) (ea_cons ev_c (ea_cons ev_c ea_nil))) (.inr (same_t s2 ha))))).is (by rw [hal]; simp; omega)) fun H3 a3 => ?_)
    refine sq (st_asgV a3 ((ev_sub (ev_len (ev_var rfl) (.t (same_t s2 hc))) ev_c).is (by rw [List.length_map])) fun H4 a4 => ?_)
    refine sq (st_forE2 (J_ci2 (.own p x (.ins C.c dx [])) x ca aa ((c.length : Int) - 1)) a4 (ea_cons (ev_var rfl) ea_nil) (.inr (same_t s2 ha)) ⟨v4, v5, v6, v7, v8, rfl, rfl⟩ ?_ ?_)
    · rintro i y σ' p' F5 H5 hi s5 a5 ⟨v4, v5, v6, v7, v8, rfl, rfl⟩
      have hil : i < a.length := by have := (List.getElem?_eq_some_iff.mp hi).1; rw [hal] at this; exact this
      obtain ⟨b, e1, e2⟩ := pair_at hp hil
      rw [List.getElem?_map, e1] at hi
      obtain rfl := Option.some.inj hi
      have e3 := same_t (s2.trans s5) e2
      have he := ch.ar hil
      exact st_no a5 ((et_or (et_not (et_bl (ev_rowc (ea_cons (ev_var rfl) (ea_cons ev_c (ea_cons ev_c ea_nil))) (.inr e3)))) fun _ => et_or (et_not (et_bl (ev_whole (ea_cons (ev_ix (ev_var rfl) ev_c (.t e3) rfl) (ea_cons ev_c (ea_cons (ev_var rfl) ea_nil)))))) fun _ => et_not (et_bl (ev_whole (ea_cons (ev_ix (ev_var rfl) ev_c (.t e3) rfl) (ea_cons ev_c (ea_cons (ev_var rfl) ea_nil)))))).is (by simp; omega)) fun H6 a6 => ⟨_, F5, s5, a6, _, _, _, _, _, rfl, rfl⟩
    rintro σ' p' F5 H5 s5 a5 ⟨v4, v5, v6, v7, v8, rfl, rfl⟩
    have s25 := s2.trans s5
    refine sq (st_forE2P (Pt := fun _ xs _ => xs = List.replicate c.length (V.bl true)) (fun _ _ => J_ci2 (.own p x (.ins C.c dx [])) x ca aa ((c.length : Int) - 1)) a5 ((eap_one (ev_call (P := fun v F2 => ∃ r, v = .ref r ∧ F2 r = some (.lst (List.replicate c.length (.bl true)))) (ea_cons ((ev_len (ev_var rfl) (.t (same_t s25 hc))).is (by rw [List.length_map])) (ea_cons (ev_var rfl) ea_nil)) fun F6 H6 s6 a6 Q k => ⟨_, F6, aa, a, c.length, rfl, a6, ⟨as, same_t (s25.trans s6) ha, hp.mono (s25.trans s6)⟩, n1, n2, ch.ends, ch.reach, fun v F7 H7 s7 a7 ⟨r, er, _, e⟩ => k v F7 H7 s7 a7 ⟨r, er, e⟩⟩)).imp fun vs F6 _ ⟨v, ev, r, er, e⟩ => ⟨r, _, by rw [ev, er], .inl (.of e), rfl⟩) (fun _ _ _ _ _ => ⟨v4, v5, v6, v7, v8, rfl, rfl⟩) ?_ ?_)
    · rintro r xs F6 i y σ' p' F7 H7 s6 rfl hi s7 a7 ⟨v4, v5, v6, v7, v8, rfl, rfl⟩
      have ey : y = .bl true := List.eq_of_mem_replicate (List.mem_of_getElem? hi)
      subst ey
      exact st_no a7 ((et_not (et_bl (ev_var rfl))).is rfl) fun H8 a8 => ⟨_, F7, s7, a8, _, _, _, _, _, rfl, rfl⟩
    rintro r xs F6 σ' p' F7 H7 s6 rfl s7 a7 ⟨v4, v5, v6, v7, v8, rfl, rfl⟩
    have s27 := s25.trans (s6.trans s7)
    refine sq (st_fld a7 (Ev.toP (ev_tupT (ev_var rfl) (same_t s27 hc))) (ev_var rfl) T.c T.c_costs (by decide) fun v F8 H8 s8 a8 ev => ?_)
    subst ev
    have s28 := s27.trans s8
    refine st_fld a8 (ev_tupM (Pt := fun xs F9 => xs = as.map V.ref) ((ev_lcT (J := fun i acc _ => acc = (as.map V.ref).take i) (ev_var rfl) (same_t s28 ha) (by rw [hal]; omega) (fun _ => rfl) (fun _ _ => rfl) fun i y acc F9 p' hi s9 j hl hD => LcT.all ?_).imp ?_)) (ev_var rfl) T.c T.c_arrows (by show 1 < 1000; decide) fun v F9 H9 s9 a9 ⟨q2, xs, F10, ev, _, n10, s10, ef, ex⟩ => ?_
    · have hil : i < a.length := by have := (List.getElem?_eq_some_iff.mp hi).1; rw [hal] at this; exact this
      obtain ⟨b, e1, e2⟩ := pair_at hp hil
      have hi2 := hi
      rw [List.getElem?_map, e1] at hi
      obtain rfl := Option.some.inj hi
      refine (ev_tupT (ev_var rfl) (same_t (s28.trans s9) e2)).toPP fun F10 _ => ?_
      rw [j, List.take_add_one, hi2]
      rfl
    · rintro v F9 s9 ⟨q2, xs, F10, ev, e1, e2, e3, e4, e5, e6⟩
      refine ⟨q2, xs, ev, by rw [e3]; exact .of upd_same, ?_⟩
      rw [e6, List.take_length]
    · subst ev ef ex
      exact q _ _ _ q2 ((s28.trans s10).trans (same_new n10)) a9 rfl rfl ⟨as, .of upd_same, hp.mono ((s28.trans s10).trans (same_new n10))⟩
end
end PA
namespace PA
open PySem PyProof.Rows L2
section
variable {P : Program} {w : World} {K : PySem.W.Frag} {mg : Str → Option Value} {base : Heap}
def J_mi (p : Wd) (x ch ga : Addr) (f : Int) : LJ := fun _ σ' p' _ => ∃ v4 v5 : Option V, p' = p ∧ σ' = [some (.ref x), some (.ref ch), some (.int f), some (.ref ga), v4, v5]
abbrev st_meter_init : Stmt := inClass (top 54) 0
theorem sc_meter_init : FnScope ["self", "chart", "first", "charges", "arrow", "charge"] ["self", "chart", "first", "charges"] (defScope st_meter_init) := ⟨rfl, rfl, rfl, by decide +kernel, rfl, by decide +kernel, by decide +kernel⟩
theorem cal_meter_init (M : Bl mg) {C : Cs} (T : Tx K C.c C.m C.s) (c_is_row : Cal P w K mg base 1 "is_row" (sp_is_row K)) (c_is_whole : Cal P w K mg base 1 "is_whole" sp_is_whole) (D : Dc K mg "Meter" "Meter.__init__" C.m st_meter_init ["self", "chart", "first", "charges"]) : Mak P w K mg base 2 "Meter" C.m (sp_meter_init K C) := by
  refine mak_of D sc_meter_init (fun vs H Q E h => ?_) (fun f cdv A outer s H vs Q E hr h => ?_)
  · obtain ⟨p, F, x, dx, ch, ga, c, a, f, g, rfl, _⟩ := h
    rfl
  · have sc := sc_meter_init
    refine ⟨_, (pss_cons
      (ps_if (pt_not (pt_truK (K := K) rfl (pe_c c_is_whole hr (by decide) rfl (pa_cons (pv 2) (pa_cons pe_int (pa_cons (pe_gc rfl M.most) pa_nil))))))
      (pss_one
      ps_never)
      pss_nil)
      (pss_cons
      (ps_if (pt_not (pt_truK (K := K) rfl (pe_c c_is_row hr (by decide) rfl (pa_cons (pv 3) (pa_cons (pe_callB (call_lenK (K := K)) rfl M.b_len bt_len (pa_cons (pe_fldK (K := K) rfl (pv 1) rfl) pa_nil)) (pa_cons (pe_callB (call_lenK (K := K)) rfl M.b_len bt_len (pa_cons (pe_fldK (K := K) rfl (pv 1) rfl) pa_nil)) pa_nil))))))
      (pss_one
      ps_never)
      pss_nil)
      (pss_cons
      (ps_for PassesOwn.never rfl (pi_enK (K := K) rfl rfl M.b_enumerate (pa_cons (pv 3) pa_nil)) (pg_tupK (K := K) (n := 2) rfl rfl (pgs_cons (pg_name (i := 4) sc.nd rfl (Or.inl rfl)) (pgs_cons (pg_name (i := 5) sc.nd rfl (Or.inl rfl)) pgs_nil)))
      (pss_one
      (ps_if (pt_not (pt_truK (K := K) rfl (pe_c c_is_whole hr (by decide) rfl (pa_cons (pv 5) (pa_cons pe_int (pa_cons (pe_gc rfl M.most) pa_nil))))))
      (pss_one
      ps_never)
      pss_nil)))
      (pss_cons
      (ps_fld (pv 0) (pv 1) rfl)
      (pss_cons
      (ps_fld (pv 0) (pv 2) rfl)
      (pss_one
      (ps_fld (pv 0) (pe_callTy (call_tupK (K := K)) rfl M.b_tuple bt_tuple (pa_cons (pv 3) pa_nil)) rfl))))))), ?_⟩
    obtain ⟨p, F, x, dx, ch, ga, c, a, f, g, rfl, at0, hch, hg, hgl, hf, hg0, q⟩ := h
    refine sq (st_no at0 ((et_not (et_bl (ev_whole (ea_cons (ev_var rfl) (ea_cons ev_c (ea_cons ev_c ea_nil)))))).is (by simp; omega)) fun H1 at1 => ?_)
    obtain ⟨aa, e1, h1⟩ := hch.arrows T (te := tVar 1) (p := .own p x (.ins C.m dx [])) (σ := [some (.ref x), some (.ref ch), some (.int f), some (.ref ga), none, none]) (ev_var rfl)
    obtain ⟨as, h2, h3⟩ := h1.len
    have el := ev_len e1 (.t h2)
    rw [h3] at el
    refine sq (st_no at1 ((et_not (et_bl (ev_rowc (ea_cons (ev_var rfl) (ea_cons el (ea_cons el ea_nil))) (.inr hg)))).is (by rw [List.length_map, hgl]; simp)) fun H2 at2 => ?_)
    refine sq (st_forE2 (J_mi (.own p x (.ins C.m dx [])) x ch ga f) at2 (ea_cons (ev_var rfl) ea_nil) (.inr hg) ⟨none, none, rfl, rfl⟩ ?_ ?_)
    · rintro i y σ' p' F2 H' hi s2 a2 ⟨v4, v5, rfl, rfl⟩
      have hil : i < g.length := by have := (List.getElem?_eq_some_iff.mp hi).1; rw [List.length_map] at this; exact this
      rw [List.getElem?_map, nth_get hil] at hi
      obtain rfl := Option.some.inj hi
      have h0 := hg0 _ (nth_mem hil)
      exact st_no a2 ((et_not (et_bl (ev_whole (ea_cons (ev_var rfl) (ea_cons ev_c (ea_cons ev_c ea_nil)))))).is (by simp; omega)) fun H3 a3 => ⟨_, F2, s2, a3, _, _, rfl, rfl⟩
    rintro σ' p' F2 H' s2 a2 ⟨v4, v5, rfl, rfl⟩
    refine sq (st_fld a2 (Ev.toP (ev_var rfl)) (ev_var rfl) T.m T.m_chart (by decide) fun v F3 H3 s3 a3 ev => ?_)
    subst ev
    refine sq (st_fld a3 (Ev.toP (ev_var rfl)) (ev_var rfl) T.m T.m_first (by show 1 < 1000; decide) fun v F4 H4 s4 a4 ev => ?_)
    subst ev
    refine st_fld a4 (Ev.toP (ev_tupT (ev_var rfl) (same_t (s2.trans (s3.trans s4)) hg))) (ev_var rfl) T.m T.m_charges (by show 2 < 1000; decide) fun v F5 H5 s5 a5 ev => ?_
    subst ev
    exact q _ _ (a5.less (s2.trans (s3.trans (s4.trans s5)))) rfl rfl rfl
end
end PA
namespace PA
open PySem PyProof.Rows L2
section
variable {P : Program} {w : World} {K : PySem.W.Frag} {mg : Str → Option Value} {base : Heap}
def J_rest (K : PySem.W.Frag) (p : Wd) (m lr R : Addr) (lo : Int) (ln : Nat) (s : Int) (φ : Nat → Int) (n : Nat) : LJ := fun i σ' p' F' => ∃ (rs : List Addr) (v6 v7 v8 v9 v10 v11 : Option V), σ' = [some (.ref m), some (.ref lr), some (.int lo), some (.int (ln : Int)), some (.int s), some (.ref R), v6, v7, v8, v9, v10, v11] ∧
  p' = .own p R (.lst (rs.map V.ref)) ∧ rs.length = i + 1 ∧ ∀ r ∈ rs, ∃ row, SqL K F' r row ∧ RowOk φ n row
def J_rest2 (K : PySem.W.Frag) (p : Wd) (m lr R Dr : Addr) (lo : Int) (ln : Nat) (s : Int) (φ : Nat → Int) (n k : Nat) (rs : List Addr) : LJ := fun i σ' p' F' => ∃ (row : List V) (v8 v9 v10 v11 : Option V), σ' = [some (.ref m), some (.ref lr), some (.int lo), some (.int (ln : Int)), some (.int s), some (.ref R), some (.int (k : Int)), some (.ref Dr), v8, v9, v10, v11] ∧
  p' = .own (.own p R (.lst (rs.map V.ref))) Dr (.lst row) ∧ RowOk φ n row
abbrev st_rest_rows : Stmt := top 21
theorem sc_rest_rows : FnScope ["meter", "last_row", "lowest", "length", "sense", "rows", "k", "row", "arrow", "tail", "head", "worth"] ["meter", "last_row", "lowest", "length", "sense"] (defScope st_rest_rows) := ⟨rfl, rfl, rfl, by decide +kernel, rfl, by decide +kernel, by decide +kernel⟩
theorem cal_rest_rows (M : Bl mg) {C : Cs} (T : Tx K C.c C.m C.s) (c_arrow_gain : Cal P w K mg base 1 "arrow_gain" (sp_arrow_gain K C)) (D : Df K mg "rest_rows" st_rest_rows ["meter", "last_row", "lowest", "length", "sense"]) : Cal P w K mg base 2 "rest_rows" (sp_rest_rows K C) := by
  refine cal_of D sc_rest_rows (fun vs H Q E h => ?_) (fun f cdv A outer s H vs Q E hr h => ?_)
  · obtain ⟨p, F, m, c, a, pp, g, lr, row, lo, ln, s, φ, rfl, _⟩ := h
    rfl
  · have sc := sc_rest_rows
    refine ⟨_, (pss_cons
      (ps_set (i := 5) sc.nd rfl (Or.inl rfl) (pe_lst (pa_cons (pv 1) pa_nil)))
      (pss_cons
      (ps_for PassesOwn.never rfl (pi_range1 rfl M.b_range (pa_cons (pv 3) pa_nil)) (pg_name (i := 6) sc.nd rfl (Or.inl rfl))
      (pss_cons
      (ps_set (i := 7) sc.nd rfl (Or.inl rfl) (pe_op op_rep (pe_lst (pa_cons pe_non pa_nil)) (pe_callB (call_lenK (K := K)) rfl M.b_len bt_len (pa_cons (pv 1) pa_nil))))
      (pss_cons
      (ps_for PassesOwn.never rfl (pi_enK (K := K) rfl rfl M.b_enumerate (pa_cons (pe_fldK (K := K) rfl (pe_fldK (K := K) rfl (pv 0) rfl) rfl) pa_nil)) (pg_tupK (K := K) (n := 2) rfl rfl (pgs_cons (pg_name (i := 8) sc.nd rfl (Or.inl rfl)) (pgs_cons (pg_tupK (K := K) (n := 2) rfl rfl (pgs_cons (pg_name (i := 9) sc.nd rfl (Or.inl rfl)) (pgs_cons (pg_name (i := 10) sc.nd rfl (Or.inl rfl)) pgs_nil))) pgs_nil)))
      (pss_one
      (ps_if (PW.pt (pw_and (pt_cmpR op_ge (pv 9) (pv 2) (nomark _)) (pw_and1 (pt_cmpR o_notN (pe_ix (ix_K (K := K)) (pe_ix (ix_K (K := K)) (pv 5) (pv 6) (fun _ _ => rfl)) (pv 10) (fun _ _ => rfl)) pe_non (nomark _)))))
      (pss_cons
      (ps_set (i := 11) sc.nd rfl (Or.inl rfl) (pe_op op_add (pe_ix (ix_K (K := K)) (pe_ix (ix_K (K := K)) (pv 5) (pv 6) (fun _ _ => rfl)) (pv 10) (fun _ _ => rfl)) (pe_op op_mul (pv 4) (pe_c c_arrow_gain hr (by decide) rfl (pa_cons (pv 0) (pa_cons (pv 8) pa_nil))))))
      (pss_one
      (ps_if (PW.pt (pw_or (pt_cmpR o_isN (pe_ix (ix_K (K := K)) (pv 7) (pv 9) (fun _ _ => rfl)) pe_non (nomark _)) (pw_or1 (pt_cmpR op_gt (pv 11) (pe_ix (ix_K (K := K)) (pv 7) (pv 9) (fun _ _ => rfl)) (nomark _)))))
      (pss_one
      (ps_asg (pv 11) (pg_sub (pv 7) (pv 9) set_list)))
      pss_nil)))
      pss_nil)))
      (pss_one
      (ps_expr (pe_bm PySem.F.plainAttrs_list PySem.F.slot_list_append PySem.F.type_list_append mt_append (pv 5) (pa_cons (pv 7) pa_nil)))))))
      (pss_one
      (ps_ret (pv 5))))), ?_⟩
    obtain ⟨p, F, m, c, a, pp, g, lr, row0, lo, ln, s, φ, rfl, at0, mw, hlr, hr0, hs, hln, hφ, q⟩ := h
    -- rows = [last_row]
    refine sq (st_asgM at0 (ev_lst (ea_cons (ev_var rfl) ea_nil) (show 1 ≤ 100000 by decide)) fun R H1 nR at1 => ?_)
    -- for k in range(length)
    refine sq (st_forR1 (n := ln) (J_rest K p m lr R lo ln s φ c.length) at1 (ea_cons (ev_var rfl) ea_nil) (by omega) ⟨[lr], none, none, none, none, none, none, rfl, rfl, rfl, fun r hr => ?_⟩ ?_ ?_)
    · rw [List.mem_singleton.mp hr]
      exact ⟨row0, hlr, hr0⟩
    · rintro k σ' p' F1 H' hk s1 a1 ⟨rs, v6, v7, v8, v9, v10, v11, rfl, rfl, hl, hrs⟩
      have mw1 := mw.mono s1
      -- row = [None] * len(last_row)
      refine sq (st_asgM a1 (ev_repl ev_c (ev_len (ev_var rfl) (.l (s1.seq hlr))) (by rw [hr0.1]; have := mw.ch.n2; omega)) fun Dr H2 nD at2 => ?_)
      -- for arrow, (tail, head) in enumerate(..)
      obtain ⟨aa, e1, h1⟩ := mw1.arrows T (te := tVar 0) (p := .own (.own p R (.lst (rs.map V.ref))) Dr (.lst (List.replicate row0.length .non))) (σ := [some (.ref m), some (.ref lr), some (.int lo), some (.int (ln : Int)), some (.int s), some (.ref R), some (.int (k : Int)), some (.ref Dr), v8, v9, v10, v11]) (ev_var rfl)
      obtain ⟨as, ha, hp⟩ := h1
      refine sq (st_forE12 (J_rest2 K p m lr R Dr lo ln s φ c.length k rs) at2 (ea_cons e1 ea_nil) (.inr ha) hp ⟨_, v8, v9, v10, v11, rfl, rfl, by rw [hr0.1]; exact .new φ _⟩ ?_ ?_)
      · rintro j pr σ' p' F2 H' hj s2 a2 ⟨row, w8, w9, w10, w11, rfl, rfl, hrow⟩
        have hjl : j < a.length := by have := (List.getElem?_eq_some_iff.mp hj).1; rw [prs_len] at this; exact this
        rw [prs_get hjl] at hj
        obtain rfl := Option.some.inj hj
        have hends := mw.ch.ar hjl
        have mw2 := mw1.mono s2
        -- rows[k][head]
        have hkl : k < rs.length := by omega
        obtain ⟨rk, hrk, hok⟩ := hrs rs[k] (List.getElem_mem hkl)
        have ixr : ∀ w11', Ev (.own (.own p R (.lst (rs.map V.ref))) Dr (.lst row)) (tOp (rIx K) (tVar 5) (tVar 6)) [some (.ref m), some (.ref lr), some (.int lo), some (.int (ln : Int)), some (.int s), some (.ref R), some (.int (k : Int)), some (.ref Dr), some (.int (j : Int)), some (.int ((ar a j).1 : Int)), some (.int ((ar a j).2 : Int)), w11'] F2 (.ref rs[k]) :=
          fun w11' => ev_ix (ev_var rfl) (ev_var rfl) .own2 (at_get (by rw [List.getElem?_map, List.getElem?_eq_getElem hkl]; rfl))
        rcases hok.get hends.2 with hx | hx
        · -- no worth there
          refine st_no a2 ((et_and (et_test (ev_ge (ev_var rfl) (ev_var rfl))) fun _ => et_test (ev_notN (ev_ix (ixr _) (ev_var rfl) (.l (s2.seq hrk)) (at_get hx)))).is (by simp)) fun H3 a3 => ?_
          exact ⟨_, F2, s2, a3, row, _, _, _, _, rfl, rfl, hrow⟩
        · refine st_if a2 (et_and (et_test (ev_ge (ev_var rfl) (ev_var rfl))) fun _ => et_test (ev_notN (ev_ix (ixr _) (ev_var rfl) (.l (s2.seq hrk)) (at_get hx)))) (fun _ H3 a3 => ?_) (fun _ H3 a3 => ⟨_, F2, s2, a3, row, _, _, _, _, rfl, rfl, hrow⟩)
          -- worth
          refine sq (st_asgV a3 (ev_add (ev_ix (ixr _) (ev_var rfl) (.l (s2.seq hrk)) (at_get hx)) (ev_mul (ev_var rfl) (ev_callV (ea_cons (ev_var rfl) (ea_cons (ev_var rfl) ea_nil)) fun F3 H s3 a3 Q k => ⟨_, F3, m, c, a, pp, g, j, rfl, a3, mw2.mono s3, hjl, k⟩) (sgn_mul hs _))) fun H4 a4 => ?_)
          rw [← hφ j hjl]
          have ixt : Ev (.own (.own p R (.lst (rs.map V.ref))) Dr (.lst row)) (tVar 11) [some (.ref m), some (.ref lr), some (.int lo), some (.int (ln : Int)), some (.int s), some (.ref R), some (.int (k : Int)), some (.ref Dr), some (.int (j : Int)), some (.int ((ar a j).1 : Int)), some (.int ((ar a j).2 : Int)), some (.int (φ (ar a j).1))] F2 (.int (φ (ar a j).1)) := ev_var rfl
          have put : ∀ (D' : Ends) H5, At (.own (.own p R (.lst (rs.map V.ref))) Dr (.lst row)) F2 H5 → tAsg (tVar 11) (gSub (tVar 7) (tVar 9) rSetL) (tn F1 (J_rest2 K p m lr R Dr lo ln s φ c.length k rs) (j + 1) D') [some (.ref m), some (.ref lr), some (.int lo), some (.int (ln : Int)), some (.int s), some (.ref R), some (.int (k : Int)), some (.ref Dr), some (.int (j : Int)), some (.int ((ar a j).1 : Int)), some (.int ((ar a j).2 : Int)), some (.int (φ (ar a j).1))] H5 := fun D' H5 a5 =>
            st_set a5 ixt.toP (ev_var rfl) (ev_var rfl) (by rw [hrow.1]; exact hends.1) fun v F3 H6 s3 a6 ev => by
              subst ev
              exact ⟨_, F3, s2.trans s3, a6, _, _, _, _, _, rfl, rfl, hrow.set⟩
          rcases hrow.get hends.1 with hy | hy
          · exact st_yes a4 ((et_or (c := true) (et_test (ev_isN (ev_ix (ev_var rfl) (ev_var rfl) .own (at_get hy)))) fun z => absurd z (by simp)).is (by simp)) (put _)
          · exact st_if a4 (et_or (et_test (ev_isN (ev_ix (ev_var rfl) (ev_var rfl) .own (at_get hy)))) fun _ => et_test (ev_gt ixt (ev_ix (ev_var rfl) (ev_var rfl) .own (at_get hy)))) (fun _ => put _) fun _ H5 a5 => ⟨_, F2, s2, a5, row, _, _, _, _, rfl, rfl, hrow⟩
      · rintro σ' p' F2 H' s2 a2 ⟨row, w8, w9, w10, w11, rfl, rfl, hrow⟩
        -- rows.append(row)
        have g := a2.give_same
        refine st_app a2.give (ev_var rfl) (Ev.toP (ev_var rfl)) (by rw [List.length_map]; omega) fun v F3 H3 s3 a3 ev => ?_
        subst ev
        refine ⟨_, F3, s1.trans (s2.trans (g.trans s3)), a3, rs ++ [Dr], _, _, _, _, _, _, rfl, by rw [List.map_append]; rfl, by rw [List.length_append]; simp [hl], fun r hr => ?_⟩
        rcases List.mem_append.mp hr with z | z
        · obtain ⟨row', e1, e2⟩ := hrs r z
          exact ⟨row', (s2.trans (g.trans s3)).seq e1, e2⟩
        · rw [List.mem_singleton.mp z]
          exact ⟨row, .of (s3 _ _ upd_same), hrow⟩
    · rintro σ' p' F1 H' s1 a1 ⟨rs, v6, v7, v8, v9, v10, v11, rfl, rfl, hl, hrs⟩
      have g := a1.give_same
      refine st_retV a1.give (ev_var rfl) fun H2 a2 => q _ _ _ (s1.trans g) a2 ⟨R, rfl, nR, rs, .of upd_same, hl, fun k r hk => ?_⟩
      obtain ⟨row', e1, e2⟩ := hrs r (List.mem_of_getElem? hk)
      exact ⟨row', g.seq e1, e2, True.intro⟩
end
end PA
namespace PA
open PySem PyProof.Rows L2
section
variable {P : Program} {w : World} {K : PySem.W.Frag} {mg : Str → Option Value} {base : Heap}
abbrev st_least_ring : Stmt := top 23
theorem sc_least_ring : FnScope ["meter", "tables", "start", "length", "ring", "place", "gained", "left", "arrow", "head"] ["meter", "tables", "start", "length"] (defScope st_least_ring) := ⟨rfl, rfl, rfl, by decide +kernel, rfl, by decide +kernel, by decide +kernel⟩
theorem cal_least_ring (M : Bl mg) {C : Cs} (T : Tx K C.c C.m C.s) (c_can_drift : Cal P w K mg base 1 "can_drift" (sp_can_drift K)) (D : Df K mg "least_ring" st_least_ring ["meter", "tables", "start", "length"]) : Cal P w K mg base 2 "least_ring" (sp_least_ring K) := by
  refine cal_of D sc_least_ring (fun vs H Q E h => ?_) (fun f cdv A outer s H vs Q E hr h => ?_)
  · obtain ⟨p, F, mt, tb, st, n, m, ln, pp, rfl, _⟩ := h
    rfl
  · have sc := sc_least_ring
    refine ⟨_, (pss_cons
      (ps_if (pt_not (pt_truK (K := K) rfl (pe_c c_can_drift hr (by decide) rfl (pa_cons (pv 1) (pa_cons (pv 2) (pa_cons (pv 3) (pa_cons pe_int pa_nil)))))))
      (pss_one
      (ps_ret pe_non))
      pss_nil)
      pss_never), ?_⟩
    obtain ⟨p, F, mt, tb, st, n, m, ln, pp, rfl, at0, ht, hst, hln, q⟩ := h
    exact sq (st_yes at0 ((et_not (et_bl (ev_callV (ea_cons (ev_var rfl) (ea_cons (ev_var rfl) (ea_cons (ev_var rfl) (ea_cons ev_c ea_nil)))) fun F1 H s1 a1 Q k => ⟨_, F1, tb, st, n, m, ln, pp, rfl, a1, ht.mono s1, hst, hln, k⟩))).is rfl) fun H1 a1 => st_retV a1 ev_c q)
end
end PA
namespace PA
open PySem PyProof.Rows L2
section
variable {P : Program} {w : World} {K : PySem.W.Frag} {mg : Str → Option Value} {base : Heap}
def J_cr (p : Wd) (ch r : Addr) (a : Arr) (run : List Nat) : LJ := fun i σ' p' _ => ∃ v3 v4 : Option V, p' = p ∧ σ' = [some (.ref ch), some (.ref r), some (.int (plc a run i : Int)), v3, v4]
abbrev st_check_run : Stmt := top 29
theorem sc_check_run : FnScope ["chart", "run", "place", "index", "arrow"] ["chart", "run"] (defScope st_check_run) := ⟨rfl, rfl, rfl, by decide +kernel, rfl, by decide +kernel, by decide +kernel⟩
theorem cal_check_run (M : Bl mg) {C : Cs} (T : Tx K C.c C.m C.s) (c_is_row : Cal P w K mg base 1 "is_row" (sp_is_row K)) (c_is_whole : Cal P w K mg base 1 "is_whole" sp_is_whole) (D : Df K mg "check_run" st_check_run ["chart", "run"]) : Cal P w K mg base 2 "check_run" (sp_check_run K C) := by
  refine cal_of D sc_check_run (fun vs H Q E h => ?_) (fun f cdv A outer s H vs Q E hr h => ?_)
  · obtain ⟨p, F, ch, r, c, a, run, rfl, _⟩ := h
    rfl
  · have sc := sc_check_run
    refine ⟨_, (pss_cons
      (ps_if (pt_not (pt_truK (K := K) rfl (pe_c c_is_row hr (by decide) rfl (pa_cons (pv 1) (pa_cons pe_int (pa_cons pe_int pa_nil))))))
      (pss_one
      ps_never)
      pss_nil)
      (pss_cons
      (ps_set (i := 2) sc.nd rfl (Or.inl rfl) pe_int)
      (pss_cons
      (ps_for PassesOwn.never rfl (pi_enK (K := K) rfl rfl M.b_enumerate (pa_cons (pv 1) pa_nil)) (pg_tupK (K := K) (n := 2) rfl rfl (pgs_cons (pg_name (i := 3) sc.nd rfl (Or.inl rfl)) (pgs_cons (pg_name (i := 4) sc.nd rfl (Or.inl rfl)) pgs_nil)))
      (pss_cons
      (ps_if (PW.pt (pw_or (pt_not (pt_truK (K := K) rfl (pe_c c_is_whole hr (by decide) rfl (pa_cons (pv 4) (pa_cons pe_int (pa_cons (pe_op op_sub (pe_callB (call_lenK (K := K)) rfl M.b_len bt_len (pa_cons (pe_fldK (K := K) rfl (pv 0) rfl) pa_nil)) pe_int) pa_nil)))))) (pw_or1 (pt_cmpR op_ne (pe_ix (ix_K (K := K)) (pe_ix (ix_K (K := K)) (pe_fldK (K := K) rfl (pv 0) rfl) (pv 4) (fun _ _ => rfl)) pe_int (fun _ _ => rfl)) (pv 2) (nomark _)))))
      (pss_one
      ps_never)
      pss_nil)
      (pss_one
      (ps_set (i := 2) sc.nd rfl (Or.inl rfl) (pe_ix (ix_K (K := K)) (pe_ix (ix_K (K := K)) (pe_fldK (K := K) rfl (pv 0) rfl) (pv 4) (fun _ _ => rfl)) pe_int (fun _ _ => rfl))))))
      (pss_one
      (ps_ret (pe_callTy (call_tupK (K := K)) rfl M.b_tuple bt_tuple (pa_cons (pv 1) pa_nil))))))), ?_⟩
    obtain ⟨p, F, ch, r, c, a, run, rfl, at0, hch, hr', hrun, hlen, q⟩ := h
    have hml : (run.map fun (k : Nat) => V.int (k : Int)).length = run.length := by rw [List.length_map]
    refine sq (st_no at0 ((et_not (et_bl (ev_rowc (ea_cons (ev_var rfl) (ea_cons ev_c (ea_cons ev_c ea_nil))) hr'))).is (by rw [hml]; simp; omega)) fun H1 at1 => ?_)
    dsimp only [tNext]
    refine sq (st_asgV at1 ev_c fun H2 at2 => ?_)
    refine sq (st_forE2 (J_cr p ch r a run) at2 (ea_cons (ev_var rfl) ea_nil) hr' ⟨none, none, rfl, rfl⟩ ?_ ?_)
    · rintro i y σ' p' F2 H' hi s2 a2 ⟨v3, v4, rfl, rfl⟩
      have hil : i < run.length := by have := (List.getElem?_eq_some_iff.mp hi).1; rw [hml] at this; exact this
      rw [run_get hil] at hi
      obtain rfl := Option.some.inj hi
      have hlt := hrun.lt hil
      have htl := hrun.tl hil
      have c2 := hch.mono s2
      obtain ⟨aa, e1, h1⟩ := c2.arrows T (te := tVar 0) (p := p') (σ := [some (.ref ch), some (.ref r), some (.int (plc a run i : Int)), some (.int (i : Int)), some (.int (rn run i : Int))]) (ev_var rfl)
      obtain ⟨as, h2, h3⟩ := h1.len
      have el := ev_len e1 (.t h2)
      rw [h3] at el
      refine sq (st_no a2 ((et_or (et_not (et_bl (ev_whole (ea_cons (ev_var rfl) (ea_cons ev_c (ea_cons (ev_sub el ev_c) ea_nil)))))) fun _ => et_test (ev_ne (ev_a0 e1 (ev_var rfl) h1 hlt) (ev_var rfl) rfl)).is (by rw [htl]; simp; omega)) fun H3 a3 => ?_)
      refine st_asgV a3 (ev_a1 e1 (ev_var rfl) h1 hlt) fun H4 a4 => ?_
      rw [← plc_succ hil]
      exact ⟨_, F2, s2, a4, _, _, rfl, rfl⟩
    · rintro σ' p' F2 H' s2 a2 ⟨v3, v4, rfl, rfl⟩
      exact st_ret (σ := [some (.ref ch), some (.ref r), _, v3, v4]) (D := { nx := fun x H' => Q V.non H', rt := Q }) a2 (ev_tupA (ev_var rfl) (hr'.imp s2.seq (same_t s2))) fun v F3 H3 s3 a3 h => q v F3 H3 (s2.trans s3) a3 h
end
end PA
namespace PA
open PySem PyProof.Rows L2
section
variable {P : Program} {w : World} {K : PySem.W.Frag} {mg : Str → Option Value} {base : Heap}
abbrev LR (a : Arr) (n k : Nat) (row : List V) : Prop := ∀ v, Wk a k v → v < n → row[v]? ≠ some .non
def J_lr (K : PySem.W.Frag) (p : Wd) (m R : Addr) (s : Int) (φ : Nat → Int) (a : Arr) (n : Nat) : LJ := fun i σ' p' F' => ∃ (rs : List Addr) (v4 v5 v6 v7 v8 v9 : Option V), σ' = [some (.ref m), some (.int s), some (.int (n : Int)), some (.ref R), v4, v5, v6, v7, v8, v9] ∧
  p' = .own p R (.lst (rs.map V.ref)) ∧ rs.length = i + 1 ∧ ∀ (k : Nat) r, rs[k]? = some r → ∃ row, SqL K F' r row ∧ RowOk φ n row ∧ LR a n k row
def J_lr2 (K : PySem.W.Frag) (p : Wd) (m R Dr : Addr) (s : Int) (φ : Nat → Int) (a : Arr) (n k : Nat) (rs : List Addr) (rk : List V) : LJ := fun j σ' p' F' => ∃ (row : List V) (v6 v7 v8 v9 : Option V), σ' = [some (.ref m), some (.int s), some (.int (n : Int)), some (.ref R), some (.int (k : Int)), some (.ref Dr), v6, v7, v8, v9] ∧
  p' = .own (.own p R (.lst (rs.map V.ref))) Dr (.lst row) ∧ RowOk φ n row ∧ ∀ i, i < j → rk[(ar a i).1]? ≠ some .non → row[(ar a i).2]? ≠ some .non
theorem set_ne {row : List V} {i j : Nat} {x : Int} (h : row[j]? ≠ some .non) : (row.set i (.int x))[j]? ≠ some .non := by
  rw [List.getElem?_set]
  split
  · split
    · intro e; cases e
    · intro e; cases e
  · exact h
theorem set_at {row : List V} {i : Nat} {x : Int} : (row.set i (.int x))[i]? ≠ some .non := by
  rw [List.getElem?_set]
  rw [if_pos rfl]
  split
  · intro e; cases e
  · intro e; cases e
abbrev st_lead_rows : Stmt := top 34
theorem sc_lead_rows : FnScope ["meter", "sense", "many", "rows", "k", "row", "arrow", "tail", "head", "worth"] ["meter", "sense"] (defScope st_lead_rows) := ⟨rfl, rfl, rfl, by decide +kernel, rfl, by decide +kernel, by decide +kernel⟩
theorem cal_lead_rows (M : Bl mg) {C : Cs} (T : Tx K C.c C.m C.s) (c_arrow_gain : Cal P w K mg base 1 "arrow_gain" (sp_arrow_gain K C)) (D : Df K mg "lead_rows" st_lead_rows ["meter", "sense"]) : Cal P w K mg base 2 "lead_rows" (sp_lead_rows K C) := by
  refine cal_of D sc_lead_rows (fun vs H Q E h => ?_) (fun f cdv A outer s H vs Q E hr h => ?_)
  · obtain ⟨p, F, m, c, a, pp, g, s, rfl, _⟩ := h
    rfl
  · have sc := sc_lead_rows
    refine ⟨_, (pss_cons
      (ps_set (i := 2) sc.nd rfl (Or.inl rfl) (pe_callB (call_lenK (K := K)) rfl M.b_len bt_len (pa_cons (pe_fldK (K := K) rfl (pe_fldK (K := K) rfl (pv 0) rfl) rfl) pa_nil)))
      (pss_cons
      (ps_set (i := 3) sc.nd rfl (Or.inl rfl) (pe_lst (pa_cons (pe_op op_cat (pe_lst (pa_cons (pe_op op_mul (pv 1) (pe_fldK (K := K) rfl (pv 0) rfl)) pa_nil)) (pe_op op_rep (pe_lst (pa_cons pe_non pa_nil)) (pe_op op_sub (pv 2) pe_int))) pa_nil)))
      (pss_cons
      (ps_for PassesOwn.never rfl (pi_range1 rfl M.b_range (pa_cons (pe_op op_sub (pv 2) pe_int) pa_nil)) (pg_name (i := 4) sc.nd rfl (Or.inl rfl))
      (pss_cons
      (ps_set (i := 5) sc.nd rfl (Or.inl rfl) (pe_op op_rep (pe_lst (pa_cons pe_non pa_nil)) (pv 2)))
      (pss_cons
      (ps_for PassesOwn.never rfl (pi_enK (K := K) rfl rfl M.b_enumerate (pa_cons (pe_fldK (K := K) rfl (pe_fldK (K := K) rfl (pv 0) rfl) rfl) pa_nil)) (pg_tupK (K := K) (n := 2) rfl rfl (pgs_cons (pg_name (i := 6) sc.nd rfl (Or.inl rfl)) (pgs_cons (pg_tupK (K := K) (n := 2) rfl rfl (pgs_cons (pg_name (i := 7) sc.nd rfl (Or.inl rfl)) (pgs_cons (pg_name (i := 8) sc.nd rfl (Or.inl rfl)) pgs_nil))) pgs_nil)))
      (pss_one
      (ps_if (pt_cmpR o_notN (pe_ix (ix_K (K := K)) (pe_ix (ix_K (K := K)) (pv 3) (pv 4) (fun _ _ => rfl)) (pv 7) (fun _ _ => rfl)) pe_non (nomark _))
      (pss_cons
      (ps_set (i := 9) sc.nd rfl (Or.inl rfl) (pe_op op_add (pe_ix (ix_K (K := K)) (pe_ix (ix_K (K := K)) (pv 3) (pv 4) (fun _ _ => rfl)) (pv 7) (fun _ _ => rfl)) (pe_op op_mul (pv 1) (pe_c c_arrow_gain hr (by decide) rfl (pa_cons (pv 0) (pa_cons (pv 6) pa_nil))))))
      (pss_one
      (ps_if (PW.pt (pw_or (pt_cmpR o_isN (pe_ix (ix_K (K := K)) (pv 5) (pv 8) (fun _ _ => rfl)) pe_non (nomark _)) (pw_or1 (pt_cmpR op_gt (pv 9) (pe_ix (ix_K (K := K)) (pv 5) (pv 8) (fun _ _ => rfl)) (nomark _)))))
      (pss_one
      (ps_asg (pv 9) (pg_sub (pv 5) (pv 8) set_list)))
      pss_nil)))
      pss_nil)))
      (pss_one
      (ps_expr (pe_bm PySem.F.plainAttrs_list PySem.F.slot_list_append PySem.F.type_list_append mt_append (pv 3) (pa_cons (pv 5) pa_nil)))))))
      (pss_one
      (ps_ret (pv 3)))))), ?_⟩
    obtain ⟨p, F, m, c, a, pp, g, s, rfl, at0, mw, hs, q⟩ := h
    have n1 := mw.ch.n1
    have n2 := mw.ch.n2
    obtain ⟨ca, e1, h1⟩ := mw.costs T (te := tVar 0) (p := p) (σ := start ["meter", "sense", "many", "rows", "k", "row", "arrow", "tail", "head", "worth"] [.ref m, .int s]) (ev_var rfl)
    refine sq (st_asgV at0 ((ev_len e1 h1.s).is (by rw [List.length_map])) fun H1 at1 => ?_)
    -- rows = [[sense * meter.first] + [None] * (many - 1)]
    refine sq (st_asg at1 (ev_lstP (eap_one (ev_cat (xs := [.int (s * nth pp 0)]) (ys := List.replicate (c.length - 1) .non) ((ev_lst (ea_cons (ev_mul (ev_var rfl) (mw.h.first T (ev_var rfl)) (sgn_mul hs _)) ea_nil) (show 1 ≤ 100000 by decide)).imp fun v F2 _ ⟨l, ev, _, e⟩ => ⟨l, ev, e⟩) (fun F2 s2 => (ev_repl ev_c ((ev_sub (ev_var rfl) ev_c).is (congrArg V.int (show (c.length : Int) - 1 = ((c.length - 1 : Nat) : Int) by omega))) (by omega)).imp fun v F3 _ ⟨l, ev, _, e⟩ => ⟨l, ev, e⟩) (by simp; omega))) ?_) fun v F2 H2 s2 a2 ⟨R, vs, F3, ev, nR, n3, ef, s3, x, evs, r0, ex, nr0, hr0⟩ => ?_)
    · rintro vs F2 ⟨x, rfl, _⟩
      show 1 ≤ 100000
      decide
    subst ev ef evs ex
    have at2 := a2.take upd_same n3 (same_new n3)
    have φs : ∀ k, s * nth pp (ar a k).1 + s * (nth pp (ar a k).2 - nth pp (ar a k).1) = s * nth pp (ar a k).2 := fun k => by rw [← Int.mul_add]; congr 1; omega
    refine sq (st_forR1 (n := c.length - 1) (J_lr K p m R s (fun v => s * nth pp v) a c.length) at2 (ea_cons ((ev_sub (ev_var rfl) ev_c).is (congrArg V.int (show (c.length : Int) - 1 = ((c.length - 1 : Nat) : Int) by omega))) ea_nil) (by omega) ⟨[r0], none, none, none, none, none, none, rfl, rfl, rfl, fun k r hk => ?_⟩ ?_ ?_)
    · cases k with
      | succ k => cases hk
      | zero =>
        obtain rfl := Option.some.inj hk
        refine ⟨_, .of hr0, ⟨by simp; omega, fun i x e => ?_⟩, fun v hv hn => ?_⟩
        · cases i with
          | zero => exact .inr (Option.some.inj e).symm
          | succ i =>
            refine .inl ?_
            rw [List.singleton_append, List.getElem?_cons_succ, List.getElem?_replicate] at e
            split at e
            · exact (Option.some.inj e).symm
            · cases e
        · cases hv
          intro e
          cases e
    · rintro k σ' p' F1 H' hk s1 a1 ⟨rs, v4, v5, v6, v7, v8, v9, rfl, rfl, hl, hrs⟩
      have mw1 := mw.mono (s3.trans s1)
      refine sq (st_asgM a1 (ev_repl ev_c (ev_var rfl) (by omega)) fun Dr H2 nD at3 => ?_)
      obtain ⟨aa, e1, h1⟩ := mw1.arrows T (te := tVar 0) (p := .own (.own p R (.lst (rs.map V.ref))) Dr (.lst (List.replicate c.length .non))) (σ := [some (.ref m), some (.int s), some (.int (c.length : Int)), some (.ref R), some (.int (k : Int)), some (.ref Dr), v6, v7, v8, v9]) (ev_var rfl)
      obtain ⟨as, ha, hp⟩ := h1
      have hkl : k < rs.length := by omega
      obtain ⟨rk, hrk, hok, hlr⟩ := hrs k rs[k] (List.getElem?_eq_getElem hkl)
      refine sq (st_forE12 (J_lr2 K p m R Dr s (fun v => s * nth pp v) a c.length k rs rk) at3 (ea_cons e1 ea_nil) (.inr ha) hp ⟨_, v6, v7, v8, v9, rfl, rfl, .new _ _, fun i hi => absurd hi (Nat.not_lt_zero _)⟩ ?_ ?_)
      · rintro j pr σ' p' F2 H' hj s2 a2 ⟨row, w6, w7, w8, w9, rfl, rfl, hrow, hdn⟩
        have hjl : j < a.length := by have := (List.getElem?_eq_some_iff.mp hj).1; rw [prs_len] at this; exact this
        rw [prs_get hjl] at hj
        obtain rfl := Option.some.inj hj
        have hends := mw.ch.ar hjl
        have mw2 := mw1.mono s2
        have ixr : ∀ w9', Ev (.own (.own p R (.lst (rs.map V.ref))) Dr (.lst row)) (tOp (rIx K) (tVar 3) (tVar 4)) [some (.ref m), some (.int s), some (.int (c.length : Int)), some (.ref R), some (.int (k : Int)), some (.ref Dr), some (.int (j : Int)), some (.int ((ar a j).1 : Int)), some (.int ((ar a j).2 : Int)), w9'] F2 (.ref rs[k]) :=
          fun w9' => ev_ix (ev_var rfl) (ev_var rfl) .own2 (at_get (by rw [List.getElem?_map, List.getElem?_eq_getElem hkl]; rfl))
        rcases hok.get hends.1 with hx | hx
        · refine st_no a2 ((et_test (ev_notN (ev_ix (ixr _) (ev_var rfl) (.l (s2.seq hrk)) (at_get hx)))).is (by simp)) fun H3 a3 => ?_
          refine ⟨_, F2, s2, a3, row, _, _, _, _, rfl, rfl, hrow, fun i hi hne => ?_⟩
          by_cases z : i = j
          · subst z; exact absurd hx hne
          · exact hdn i (by omega) hne
        · refine st_yes a2 ((et_test (ev_notN (ev_ix (ixr _) (ev_var rfl) (.l (s2.seq hrk)) (at_get hx)))).is (by simp)) fun H3 a3 => ?_
          refine sq (st_asgV a3 (ev_add (ev_ix (ixr _) (ev_var rfl) (.l (s2.seq hrk)) (at_get hx)) (ev_mul (ev_var rfl) (ev_callV (ea_cons (ev_var rfl) (ea_cons (ev_var rfl) ea_nil)) fun F3 H s3 a3 Q k => ⟨_, F3, m, c, a, pp, g, j, rfl, a3, mw2.mono s3, hjl, k⟩) (sgn_mul hs _))) fun H4 a4 => ?_)
          rw [φs j]
          have ixt : Ev (.own (.own p R (.lst (rs.map V.ref))) Dr (.lst row)) (tVar 9) [some (.ref m), some (.int s), some (.int (c.length : Int)), some (.ref R), some (.int (k : Int)), some (.ref Dr), some (.int (j : Int)), some (.int ((ar a j).1 : Int)), some (.int ((ar a j).2 : Int)), some (.int (s * nth pp (ar a j).2))] F2 (.int (s * nth pp (ar a j).2)) := ev_var rfl
          have put : ∀ (D' : Ends) H5, At (.own (.own p R (.lst (rs.map V.ref))) Dr (.lst row)) F2 H5 → tAsg (tVar 9) (gSub (tVar 5) (tVar 8) rSetL) (tn F1 (J_lr2 K p m R Dr s (fun v => s * nth pp v) a c.length k rs rk) (j + 1) D') [some (.ref m), some (.int s), some (.int (c.length : Int)), some (.ref R), some (.int (k : Int)), some (.ref Dr), some (.int (j : Int)), some (.int ((ar a j).1 : Int)), some (.int ((ar a j).2 : Int)), some (.int (s * nth pp (ar a j).2))] H5 := fun D' H5 a5 =>
            st_set a5 ixt.toP (ev_var rfl) (ev_var rfl) (by rw [hrow.1]; exact hends.2) fun v F3 H6 s3 a6 ev => by
              subst ev
              refine ⟨_, F3, s2.trans s3, a6, _, _, _, _, _, rfl, rfl, hrow.set (i := (ar a j).2), fun i hi hne => ?_⟩
              by_cases z : i = j
              · subst z; exact set_at
              · exact set_ne (hdn i (by omega) hne)
          rcases hrow.get hends.2 with hy | hy
          · exact st_yes a4 ((et_or (c := true) (et_test (ev_isN (ev_ix (ev_var rfl) (ev_var rfl) .own (at_get hy)))) fun z => absurd z (by simp)).is (by simp)) (put _)
          · refine st_if a4 (et_or (et_test (ev_isN (ev_ix (ev_var rfl) (ev_var rfl) .own (at_get hy)))) fun _ => et_test (ev_gt ixt (ev_ix (ev_var rfl) (ev_var rfl) .own (at_get hy)))) (fun _ => put _) fun _ H5 a5 => ⟨_, F2, s2, a5, row, _, _, _, _, rfl, rfl, hrow, fun i hi hne => ?_⟩
            by_cases z : i = j
            · subst z
              rw [hy]
              intro e; cases e
            · exact hdn i (by omega) hne
      · rintro σ' p' F2 H' s2 a2 ⟨row, w6, w7, w8, w9, rfl, rfl, hrow, hdn⟩
        rw [prs_len] at hdn
        have g := a2.give_same
        refine st_app a2.give (ev_var rfl) (Ev.toP (ev_var rfl)) (by rw [List.length_map]; omega) fun v F3 H3 s3 a3 ev => ?_
        subst ev
        refine ⟨_, F3, s1.trans (s2.trans (g.trans s3)), a3, rs ++ [Dr], _, _, _, _, _, _, rfl, by rw [List.map_append]; rfl, by rw [List.length_append]; simp [hl], fun k' r hr => ?_⟩
        rw [List.getElem?_append] at hr
        split at hr
        · obtain ⟨row', e1, e2⟩ := hrs k' r hr
          exact ⟨row', (s2.trans (g.trans s3)).seq e1, e2⟩
        · have hj : k' - rs.length = 0 := by
            cases h0 : k' - rs.length with
            | zero => rfl
            | succ k => rw [h0] at hr; cases hr
          rw [hj] at hr
          obtain rfl := Option.some.inj hr
          have ek : k' = k + 1 := by omega
          subst ek
          refine ⟨row, .of (s3 _ _ upd_same), hrow, fun v hv hn => ?_⟩
          cases hv with
          | @step _ t _ ht he =>
            obtain ⟨i, hi, e⟩ := mem_ar he
            have q2 := hdn i hi
            rw [e] at q2
            exact q2 (hlr t ht (mw.ch.ends _ he).1)
    · rintro σ' p' F1 H' s1 a1 ⟨rs, v4, v5, v6, v7, v8, v9, rfl, rfl, hl, hrs⟩
      have g := a1.give_same
      refine st_retV a1.give (ev_var rfl) fun H2 a2 => q _ _ _ (s3.trans (s1.trans g)) a2 ⟨R, rfl, rs, .of upd_same, by omega, fun k r hk => ?_⟩
      obtain ⟨row', e1, e2, e3⟩ := hrs k r hk
      exact ⟨row', g.seq e1, e2, e3⟩
end
end PA
namespace PA
open PySem PyProof.Rows L2
section
variable {P : Program} {w : World} {K : PySem.W.Frag} {mg : Str → Option Value} {base : Heap}
abbrev st_check_limit : Stmt := top 48
theorem sc_check_limit : FnScope ["limit"] ["limit"] (defScope st_check_limit) := ⟨rfl, rfl, rfl, by decide +kernel, rfl, by decide +kernel, by decide +kernel⟩
theorem cal_check_limit (M : Bl mg) {C : Cs} (T : Tx K C.c C.m C.s) (c_is_whole : Cal P w K mg base 1 "is_whole" sp_is_whole) (D : Df K mg "check_limit" st_check_limit ["limit"]) : Cal P w K mg base 2 "check_limit" sp_check_limit := by
  refine cal_of D sc_check_limit (fun vs H Q E h => ?_) (fun f cdv A outer s H vs Q E hr h => ?_)
  · obtain ⟨p, F, l, rfl, _⟩ := h
    rfl
  · have sc := sc_check_limit
    refine ⟨_, (pss_cons
      (ps_if (pt_not (pt_truK (K := K) rfl (pe_c c_is_whole hr (by decide) rfl (pa_cons (pv 0) (pa_cons pe_int (pa_cons (pe_gc rfl M.great) pa_nil))))))
      (pss_one
      ps_never)
      pss_nil)
      (pss_one
      (ps_ret (pv 0)))), ?_⟩
    obtain ⟨p, F, l, rfl, at0, h0, h1, q⟩ := h
    refine sq (st_no at0 ((et_not (et_bl (ev_whole (ea_cons (ev_var rfl) (ea_cons ev_c (ea_cons ev_c ea_nil)))))).is (by simp; omega)) fun H1 at1 => ?_)
    dsimp only [tNext]
    exact st_retV (σ := [some (.int l)]) (D := { nx := fun x H' => Q V.non H', rt := Q }) at1 (ev_var rfl) q
end
end PA
namespace PA
open PySem PyProof.Rows L2
section
variable {P : Program} {w : World} {K : PySem.W.Frag} {mg : Str → Option Value} {base : Heap}
def J_fd (K : PySem.W.Frag) (p : Wd) (m sn Tb : Addr) (n : Nat) (pp : List Int) : LJ := fun i σ' p' F' => ∃ (ts : List Addr) (v4 v5 v6 v7 v8 v9 v10 v11 : Option V), p' = .own p Tb (.lst (ts.map V.ref)) ∧ σ' = [some (.ref m), some (.ref sn), some (.int (n : Int)), some (.ref Tb), v4, v5, v6, v7, v8, v9, v10, v11] ∧ ts.length = i ∧ ∀ (j : Nat) t, ts[j]? = some t → TabA K F' t j n (n - j + 1) pp
def J_fd2 (p : Wd) (m sn Tb : Addr) (n : Nat) : LJ := fun _ σ' p' F' => ∃ (v4 v5 v6 v7 v8 v9 v10 v11 : Option V), p' = p ∧ σ' = [some (.ref m), some (.ref sn), some (.int (n : Int)), some (.ref Tb), v4, v5, v6, v7, v8, v9, v10, v11]
def J_fd3 (p : Wd) (m sn Tb Fo : Addr) (n ln : Nat) : LJ := fun _ σ' p' F' => ∃ (v4 v6 v8 v9 v10 v11 : Option V), p' = .own p Fo (.lst []) ∧ σ' = [some (.ref m), some (.ref sn), some (.int (n : Int)), some (.ref Tb), v4, some (.int (ln : Int)), v6, some (.ref Fo), v8, v9, v10, v11]
theorem row_start {pp : List Int} {st n : Nat} (s : Int) (h : st < n) : RowOk (fun v => s * (nth pp st - nth pp v)) n ((List.range n).map fun j => if j = st then V.int 0 else V.non) := by
  refine ⟨by simp, fun i x e => ?_⟩
  rw [List.getElem?_map] at e
  cases hj : (List.range n)[i]? with
  | none => rw [hj] at e; cases e
  | some y =>
    rw [hj] at e
    obtain ⟨hl, e2⟩ := List.getElem?_eq_some_iff.mp hj
    rw [List.getElem_range] at e2
    subst e2
    have e3 : (if i = st then V.int 0 else V.non) = x := Option.some.inj e
    by_cases z : i = st
    · rw [if_pos z] at e3
      subst z
      refine .inr ?_
      rw [← e3]
      show V.int 0 = V.int (s * (nth pp i - nth pp i))
      rw [Int.sub_self, Int.mul_zero]
    · rw [if_neg z] at e3
      exact .inl e3.symm
theorem phi_step (s x y z : Int) : s * (x - y) = s * (x - z) + s * (z - y) := by
  rw [← Int.mul_add]
  congr 1
  omega
abbrev st_first_drift : Stmt := top 24
theorem sc_first_drift : FnScope ["meter", "senses", "many", "tables", "start", "length", "last_row", "found", "ring", "place", "sense", "arrow"] ["meter", "senses"] (defScope st_first_drift) := ⟨rfl, rfl, rfl, by decide +kernel, rfl, by decide +kernel, by decide +kernel⟩
theorem cal_first_drift (M : Bl mg) {C : Cs} (T : Tx K C.c C.m C.s) (c_least_ring : Cal P w K mg base 2 "least_ring" (sp_least_ring K)) (c_rest_rows : Cal P w K mg base 2 "rest_rows" (sp_rest_rows K C)) (D : Df K mg "first_drift" st_first_drift ["meter", "senses"]) : Cal P w K mg base 3 "first_drift" (sp_first_drift K C) := by
  refine cal_of D sc_first_drift (fun vs H Q E h => ?_) (fun f cdv A outer s H vs Q E hr h => ?_)
  · obtain ⟨p, F, m, sn, c, a, pp, g, ss, rfl, _⟩ := h
    rfl
  · have sc := sc_first_drift
    refine ⟨_, (pss_cons
      (ps_set (i := 2) sc.nd rfl (Or.inr rfl) (pe_callB (call_lenK (K := K)) rfl M.b_len bt_len (pa_cons (pe_fldK (K := K) rfl (pe_fldK (K := K) rfl (pv 0) rfl) rfl) pa_nil)))
      (pss_cons
      (ps_set (i := 3) sc.nd rfl (Or.inl rfl) (pe_lst pa_nil))
      (pss_cons
      (ps_for PassesOwn.never rfl (pi_range1 rfl M.b_range (pa_cons (pv 2) pa_nil)) (pg_name (i := 4) sc.nd rfl (Or.inr rfl))
      (pss_cons
      (ps_set (i := 6) sc.nd rfl (Or.inr rfl) (pe_lc (own := [("place", 9)]) rfl sc.nd (pi_range1 rfl M.b_range (pa_cons (pv 2) pa_nil)) (blkOk_by (by kernel_rfl)) (fun _ _ _ _ _ => (pg_name (i := 9) sc.nd rfl (Or.inl rfl))) (fun _ _ _ _ _ => pts_nil) (fun _ _ _ _ _ => (pe_ifExp (pt_cmpR op_eq (pv 9) (pv 4) (nomark _)) pe_int pe_non))))
      (pss_one
      (ps_expr (pe_bm PySem.F.plainAttrs_list PySem.F.slot_list_append PySem.F.type_list_append mt_append (pv 3) (pa_cons (pe_lc (own := [("sense", 10)]) rfl sc.nd (pi_tupK (K := K) rfl (pv 1)) (blkOk_by (by kernel_rfl)) (fun _ _ _ _ _ => (pg_name (i := 10) sc.nd rfl (Or.inl rfl))) (fun _ _ _ _ _ => pts_nil) (fun _ _ _ _ _ => (pe_tup (pa_cons (pv 10) (pa_cons (pe_c c_rest_rows hr (by decide) rfl (pa_cons (pv 0) (pa_cons (pv 6) (pa_cons (pv 4) (pa_cons (pe_op op_sub (pv 2) (pv 4)) (pa_cons (pv 10) pa_nil)))))) pa_nil))))) pa_nil))))))
      (pss_cons
      (ps_for PassesOwn.never rfl (pi_range2 rfl M.b_range (pa_cons pe_int (pa_cons (pe_op op_add (pv 2) pe_int) pa_nil))) (pg_name (i := 5) sc.nd rfl (Or.inl rfl))
      (pss_cons
      (ps_set (i := 7) sc.nd rfl (Or.inl rfl) (pe_lst pa_nil))
      (pss_cons
      (ps_for PassesOwn.never rfl (pi_range1 rfl M.b_range (pa_cons (pe_op op_sub (pe_op op_add (pv 2) pe_int) (pv 5)) pa_nil)) (pg_name (i := 4) sc.nd rfl (Or.inr rfl))
      (pss_cons
      (ps_set (i := 8) sc.nd rfl (Or.inl rfl) (pe_c c_least_ring hr (by decide) rfl (pa_cons (pv 0) (pa_cons (pe_ix (ix_K (K := K)) (pv 3) (pv 4) (fun _ _ => rfl)) (pa_cons (pv 4) (pa_cons (pv 5) pa_nil))))))
      (pss_one
      (ps_if (pt_cmpR o_notN (pv 8) pe_non (nomark _))
      (pss_one
      (ps_expr (pe_bm PySem.F.plainAttrs_list PySem.F.slot_list_append PySem.F.type_list_append mt_append (pv 7) (pa_cons (pv 8) pa_nil))))
      pss_nil))))
      (pss_one
      (ps_if (pt_truK (K := K) rfl (pv 7))
      pss_never
      pss_nil)))))
      (pss_one
      (ps_ret pe_non)))))), ?_⟩
    obtain ⟨p, F, m, sn, c, a, pp, g, ss, rfl, at0, mw, hsn, hsl, hss, q⟩ := h
    have n1 := mw.ch.n1
    have n2 := mw.ch.n2
    obtain ⟨ca, e1, h1⟩ := mw.costs T (te := tVar 0) (p := p) (σ := [some (.ref m), some (.ref sn), none, none, none, none, none, none, none, none, none, none]) (ev_var rfl)
    refine sq (st_asgV at0 ((ev_len e1 h1.s).is (by rw [List.length_map])) fun H1 at1 => ?_)
    refine sq (st_asgM at1 (ev_lst ea_nil (show 0 ≤ 100000 by decide)) fun Tb H2 nT at2 => ?_)
    refine sq (st_forR1 (J_fd K p m sn Tb c.length pp) at2 (ea_cons (ev_var rfl) ea_nil) (by omega) ⟨[], none, none, none, none, none, none, none, none, rfl, rfl, rfl, fun j t e => by cases e⟩ ?_ ?_)
    · rintro st σ' p' F1 H' hst s1 a1 ⟨ts, v4, v5, v6, v7, v8, v9, v10, v11, rfl, rfl, hl, hts⟩
      refine sq (st_asg a1 (ev_lcR (J := fun i acc _ => acc = (List.range i).map fun j => if j = st then V.int 0 else V.non) (ea_cons (ev_var rfl) ea_nil) (by omega) (fun _ => rfl) (fun _ _ => rfl) fun i acc F' p' hi s' j hl hD => LcT.all (ev_ifT (et_test (ev_eq (ev_var rfl) (ev_var rfl) rfl)) (fun hb => ev_c.toPP fun F2 _ => ?_) (fun hb => ev_c.toPP fun F2 _ => ?_))) fun v F2 H3 s2 a2 ⟨lr, xs, F3, ev, _, n3, ef, s3, _, ex⟩ => ?_)
      · have hb2 : i = st := by have := V.int.inj (of_decide_eq_true hb); omega
        rw [j, List.range_succ, List.map_append, List.map_cons, List.map_nil, if_pos hb2]
      · have hb2 : ¬ i = st := fun e => of_decide_eq_false hb (by rw [e])
        rw [j, List.range_succ, List.map_append, List.map_cons, List.map_nil, if_neg hb2]
      subst ev
      have hlr : SqL K F2 lr xs := by rw [ef]; exact .of upd_same
      subst ex
      refine st_app a2 (ev_var rfl) (ev_lcT (J := fun i acc F' => ∃ ts' : List Addr, acc = ts'.map V.ref ∧ ts'.length = i ∧ ∀ t ∈ ts', ∃ (s : Int) (rw : Addr), SqT K F' t [.int s, .ref rw] ∧ (s = 1 ∨ s = -1) ∧ RowsA K F' rw (fun v => s * (nth pp st - nth pp v)) c.length (c.length - st + 1) (fun _ _ => True)) (ev_var rfl) (same_t (s1.trans s2) hsn) (by rw [List.length_map]; omega) (fun _ => rfl) (fun _ _ => ⟨[], rfl, rfl, fun t e => by cases e⟩) fun i y acc F' p' hi s' j hl hD => LcT.all ?_) (by rw [List.length_map]; omega) fun v F4 H4 s4 a4 ⟨tq, xs, F5, ev, _, n5, ef5, s5, hlen, hJ⟩ => ?_
      · have hil : i < ss.length := by have := (List.getElem?_eq_some_iff.mp hi).1; rw [List.length_map] at this; exact this
        rw [List.getElem?_map, nth_get hil] at hi
        obtain rfl := Option.some.inj hi
        have hs1 := hss _ (nth_mem hil)
        obtain ⟨ts', e1, e2, e3⟩ := j
        refine (ev_tupP (eap_consV (ev_var rfl) (eap_one (ev_call (P := fun v F2 => ∃ q, v = .ref q ∧ RowsA K F2 q (fun v => nth ss i * (nth pp st - nth pp v)) c.length (c.length - st + 1) (fun _ _ => True)) (ea_cons (ev_var rfl) (ea_cons (ev_var rfl) (ea_cons (ev_var rfl) (ea_cons ((ev_sub (ev_var rfl) (ev_var rfl)).is (congrArg V.int (show (c.length : Int) - (st : Int) = ((c.length - st : Nat) : Int) by omega))) (ea_cons (ev_var rfl) ea_nil))))) fun F7 H7 s7 a7 Q k => ⟨_, F7, m, c, a, pp, g, lr, _, (st : Int), c.length - st, nth ss i, fun v => nth ss i * (nth pp st - nth pp v), rfl, a7, mw.mono (s1.trans (s2.trans (s'.trans s7))), (s'.trans s7).seq hlr, row_start _ hst, hs1, by omega, fun k hk => phi_step _ _ _ _, fun v F8 H8 s8 a8 ⟨q, eq, _, r⟩ => k v F8 H8 s8 a8 ⟨q, eq, r⟩⟩))) ?_).imp fun v F6 s6 ⟨q, vs, F7, ev, _, n7, ef7, s7, r, evs, z, er, ez⟩ => ?_
        · rintro vs F2 ⟨r, rfl, y, rfl, _⟩
          show 2 ≤ 100000
          decide
        · subst ev ef7 evs er
          obtain ⟨rq, rfl, hr'⟩ := ez
          have s67 := s7.trans (same_new (o := .tup [.int (nth ss i), .ref rq]) n7)
          refine ⟨ts' ++ [q], by rw [e1, List.map_append]; rfl, by rw [List.length_append]; simp [e2], fun t ht => ?_⟩
          rcases List.mem_append.mp ht with z | z
          · obtain ⟨s, rw', f1, f2, f3⟩ := e3 t z
            exact ⟨s, rw', same_t s67 f1, f2, f3.mono s67⟩
          · rw [List.mem_singleton.mp z]
            exact ⟨_, rq, .of upd_same, hs1, hr'.mono (same_new n7)⟩
      · subst ev ef5
        obtain ⟨ts', e1, e2, e3⟩ := hJ
        rw [List.length_map] at e2
        refine ⟨_, _, s1.trans (s2.trans s4), a4, ts ++ [tq], _, _, _, _, _, _, _, _, by rw [List.map_append]; rfl, rfl, by rw [List.length_append]; simp [hl], fun j t ht => ?_⟩
        rw [List.getElem?_append] at ht
        split at ht
        · exact (hts j t ht).mono (s2.trans s4)
        · have hj : j - ts.length = 0 := by
            cases h0 : j - ts.length with
            | zero => rfl
            | succ k => rw [h0] at ht; cases ht
          rw [hj] at ht
          obtain rfl := Option.some.inj ht
          have ej : j = st := by omega
          subst ej
          exact ⟨ts', .of (by rw [e1]; exact upd_same), by omega, fun t ht => let ⟨s, rw', f1, f2, f3⟩ := e3 t ht; ⟨s, rw', same_t (same_new n5) f1, f2, f3.mono (same_new n5)⟩⟩
    · rintro σ' p' F1 H' s1 a1 ⟨ts, v4, v5, v6, v7, v8, v9, v10, v11, rfl, rfl, hl, hts⟩
      have gs := a1.give_same
      have hT : SqL K (upd F1 Tb (.lst (ts.map V.ref))) Tb (ts.map V.ref) := .of upd_same
      refine sq (st_forR2 (lo := 1) (hi := c.length + 1) (J_fd2 p m sn Tb c.length) a1.give (ea_cons ev_c (ea_cons ((ev_add (ev_var rfl) ev_c).is (by rfl)) ea_nil)) ⟨by omega, by omega⟩ ⟨v4, v5, v6, v7, v8, v9, v10, v11, rfl, rfl⟩ ?_ ?_)
      · rintro i σ' p' F2 H2 hi s2 a2 ⟨v4, v5, v6, v7, v8, v9, v10, v11, rfl, rfl⟩
        refine sq (st_asgM a2 (ev_lst ea_nil (show 0 ≤ 100000 by decide)) fun Fo H3 nF a3 => ?_)
        refine sq (st_forR1 (n := c.length + 1 - (1 + i)) (J_fd3 _ m sn Tb Fo c.length (1 + i)) a3 (ea_cons ((ev_sub (ev_add (ev_var rfl) ev_c) (ev_var rfl)).is (congrArg V.int (show (c.length : Int) + 1 - ((1 + i : Nat) : Int) = ((c.length + 1 - (1 + i) : Nat) : Int) by omega))) ea_nil) (by omega) ⟨_, _, _, _, _, _, rfl, rfl⟩ ?_ ?_)
        · rintro st σ' p' F3 H4 hst s3 a4 ⟨v4, v6, v8, v9, v10, v11, rfl, rfl⟩
          have hsl2 : st < ts.length := by omega
          have htb := (hts st ts[st] (List.getElem?_eq_getElem hsl2)).mono (gs.trans (s2.trans s3))
          refine sq (st_asgV a4 (ev_callV (ea_cons (ev_var rfl) (ea_cons (ev_ix (ev_var rfl) (ev_var rfl) (.l ((s2.trans s3).seq hT)) (at_get (by rw [List.getElem?_map, List.getElem?_eq_getElem hsl2]; rfl))) (ea_cons (ev_var rfl) (ea_cons (ev_var rfl) ea_nil)))) fun F5 H5 s5 a5 Q k => ⟨_, F5, m, ts[st], st, c.length, c.length - st + 1, 1 + i, pp, rfl, a5, htb.mono s5, by omega, by omega, k⟩) fun H5 a5 => ?_)
          exact st_no a5 ((et_test (ev_notN (ev_var rfl))).is rfl) fun H6 a6 => ⟨_, F3, s3, a6, _, _, _, _, _, _, rfl, rfl⟩
        · rintro σ' p' F3 H4 s3 a4 ⟨v4, v6, v8, v9, v10, v11, rfl, rfl⟩
          exact st_no a4 ((et_seq (ev_var rfl) .own).is rfl) fun H5 a5 => ⟨_, _, s2.trans (s3.trans a5.give_same), a5.give, _, _, _, _, _, _, _, _, rfl, rfl⟩
      · rintro σ' p' F2 H2 s2 a2 ⟨v4, v5, v6, v7, v8, v9, v10, v11, rfl, rfl⟩
        exact st_retV (σ := []) (te := tC .non) (D := { nx := fun x H' => Q V.non H', rt := Q }) a2 ev_c fun H3 a3 => q _ (a3.less (s1.trans (gs.trans s2)))
end
end PA
namespace PA
open PySem PyProof.Rows L2
section
variable {P : Program} {w : World} {K : PySem.W.Frag} {mg : Str → Option Value} {base : Heap}
abbrev st_places_of : Stmt := top 30
theorem sc_places_of : FnScope ["chart", "run", "arrow"] ["chart", "run"] (defScope st_places_of) := ⟨rfl, rfl, rfl, by decide +kernel, rfl, by decide +kernel, by decide +kernel⟩
theorem cal_places_of (M : Bl mg) {C : Cs} (T : Tx K C.c C.m C.s) (c_check_run : Cal P w K mg base 2 "check_run" (sp_check_run K C)) (D : Df K mg "places_of" st_places_of ["chart", "run"]) : Cal P w K mg base 3 "places_of" (sp_places_of K C) := by
  refine cal_of D sc_places_of (fun vs H Q E h => ?_) (fun f cdv A outer s H vs Q E hr h => ?_)
  · obtain ⟨p, F, ch, r, c, a, run, rfl, _⟩ := h
    rfl
  · have sc := sc_places_of
    refine ⟨_, (pss_one
      (ps_ret (pe_op op_catA (pe_tup (pa_cons pe_int pa_nil)) (pe_callTy (call_tupK (K := K)) rfl M.b_tuple bt_tuple (pa_cons (pe_lc (own := [("arrow", 2)]) rfl sc.nd (pi_tupK (K := K) rfl (pe_c c_check_run hr (by decide) rfl (pa_cons (pv 0) (pa_cons (pv 1) pa_nil)))) (blkOk_by (by kernel_rfl)) (fun _ _ _ _ _ => (pg_name (i := 2) sc.nd rfl (Or.inl rfl))) (fun _ _ _ _ _ => pts_nil) (fun _ _ _ _ _ => (pe_ix (ix_K (K := K)) (pe_ix (ix_K (K := K)) (pe_fldK (K := K) rfl (pv 0) rfl) (pv 2) (fun _ _ => rfl)) pe_int (fun _ _ => rfl)))) pa_nil))))), ?_⟩
    obtain ⟨p, F, ch, r, c, a, run, rfl, at0, hch, hr', hrun, hlen, q⟩ := h
    refine st_ret at0 (ev_opP (P := fun v F2 => ∃ q, v = .ref q ∧ SqT K F2 q (plV a run)) (ev_tup (ea_cons ev_c ea_nil) (show 1 ≤ 100000 by decide)) (Pb := fun _ v F2 => ∃ q, v = .ref q ∧ SqT K F2 q ((List.range run.length).map fun j => V.int (plc a run (j + 1) : Int))) (fun x F1 s1 _ => (ev_tupM (Pt := fun xs F9 => xs = (List.range run.length).map fun j => V.int (plc a run (j + 1) : Int)) ((ev_lcTP (Pt := fun xs _ => xs = run.map fun (k : Nat) => V.int (k : Int)) (J := fun _ i acc _ => acc = (List.range i).map fun j => V.int (plc a run (j + 1) : Int)) (ev_call (ea_cons (ev_var rfl) (ea_cons (ev_var rfl) ea_nil)) fun F2 H2 s2 a2 Q k => ⟨p, F2, ch, r, c, a, run, rfl, a2, hch.mono (s1.trans s2), hr'.mono (s1.trans s2), hrun, hlen, fun v F3 H3 s3 a3 ⟨q, ev, hq⟩ => k v F3 H3 s3 a3 ⟨q, _, ev, hq, by rw [List.length_map]; omega, rfl⟩⟩) (fun _ => rfl) (fun _ _ _ _ => rfl) fun xs F2 i y acc F3 p' s2 ex hi s3 j hl hD => LcT.all ?_).imp ?_)).imp ?_) ?_) q
    · subst ex
      have hil : i < run.length := by have := (List.getElem?_eq_some_iff.mp hi).1; rw [List.length_map] at this; exact this
      rw [run_get hil] at hi
      obtain rfl := Option.some.inj hi
      have hlt := hrun.lt hil
      obtain ⟨aa, e1, h1⟩ := (hch.mono (s1.trans (s2.trans s3))).arrows T (te := tVar 0) (p := p') (σ := [some (.ref ch), some (.ref r), some (.int (rn run i : Int))]) (ev_var rfl)
      refine (ev_a1 e1 (ev_var rfl) h1 hlt).toPP fun F4 _ => ?_
      rw [j, List.range_succ, List.map_append, ← plc_succ hil]
      rfl
    · rintro v F2 s2 ⟨xs, F3, s3, rfl, q2, ys, F4, ev, _, n4, ef, s4, _, ey⟩
      rw [List.length_map] at ey
      exact ⟨q2, ys, ev, by rw [ef]; exact .of upd_same, ey⟩
    · rintro v F2 s2 ⟨q2, xs, F3, ev, _, n3, s3, ef, ex⟩
      subst ex ef
      exact ⟨q2, ev, .of upd_same⟩
    · rintro x y F1 F2 H2 s1 ⟨xa, rfl, _, hx⟩ s2 ⟨yb, rfl, hy⟩ a2 Q k
      have e0 : plV a run = [V.int 0] ++ (List.range run.length).map fun j => V.int (plc a run (j + 1) : Int) := by
        unfold plV
        rw [List.range_succ_eq_map, List.map_cons, List.map_map]
        rfl
      have hx2 : SqT K F2 xa [V.int 0] := .of (s2 _ _ hx)
      refine ⟨xa, yb, [V.int 0], _, rfl, rfl, a2.t hx2, a2.t hy, ?_, fun z => (nomatch z), fun _ z => ?_, fun _ _ t ht => ?_⟩
      · rw [List.length_map, List.length_range]
        exact Nat.le_trans (show 1 + run.length ≤ 1000 by omega) (by decide)
      · refine k _ F2 _ (Same.refl _) a2 ⟨xa, rfl, ?_⟩
        rw [e0, z]
        exact hx2
      · refine k _ _ _ (same_new (a2.free ht)) (a2.new ht) ⟨t, rfl, ?_⟩
        rw [e0]
        exact .of upd_same
end
end PA
namespace PA
open PySem PyProof.Rows L2
section
variable {P : Program} {w : World} {K : PySem.W.Frag} {mg : Str → Option Value} {base : Heap}
abbrev st_find_drift : Stmt := top 25
theorem sc_find_drift : FnScope ["meter"] ["meter"] (defScope st_find_drift) := ⟨rfl, rfl, rfl, by decide +kernel, rfl, by decide +kernel, by decide +kernel⟩
theorem cal_find_drift (M : Bl mg) {C : Cs} (T : Tx K C.c C.m C.s) (c_first_drift : Cal P w K mg base 3 "first_drift" (sp_first_drift K C)) (D : Df K mg "find_drift" st_find_drift ["meter"]) : Cal P w K mg base 4 "find_drift" (sp_find_drift K C) := by
  refine cal_of D sc_find_drift (fun vs H Q E h => ?_) (fun f cdv A outer s H vs Q E hr h => ?_)
  · obtain ⟨p, F, m, c, a, pp, g, rfl, _⟩ := h
    rfl
  · have sc := sc_find_drift
    refine ⟨_, (pss_one
      (ps_ret (pe_c c_first_drift hr (by decide) rfl (pa_cons (pv 0) (pa_cons (pe_tup (pa_cons pe_int (pa_cons (pe_un un_neg pe_int) pa_nil))) pa_nil))))), ?_⟩
    obtain ⟨p, F, m, c, a, pp, g, rfl, at0, mw, q⟩ := h
    refine st_retV at0 (EvP.toV (ev_callP (eap_consV (ev_var rfl) (eap_one (ev_tup (ea_cons ev_c (ea_cons (ev_neg ev_c) ea_nil)) (show 2 ≤ 100000 by decide)))) fun vs F1 H1 s1 hv a1 Q k => ?_)) q
    obtain ⟨r, rfl, y, rfl, sn, rfl, nsn, hsn⟩ := hv
    exact ⟨_, F1, m, sn, c, a, pp, g, [1, -1], rfl, a1, mw.mono s1, .of hsn, by decide, by decide, fun H' a' => k _ F1 H' (Same.refl _) a' rfl⟩
end
end PA
namespace PA
open PySem PyProof.Rows L2
section
variable {P : Program} {w : World} {K : PySem.W.Frag} {mg : Str → Option Value} {base : Heap}
abbrev st_find_fall : Stmt := top 26
theorem sc_find_fall : FnScope ["meter"] ["meter"] (defScope st_find_fall) := ⟨rfl, rfl, rfl, by decide +kernel, rfl, by decide +kernel, by decide +kernel⟩
theorem cal_find_fall (M : Bl mg) {C : Cs} (T : Tx K C.c C.m C.s) (c_first_drift : Cal P w K mg base 3 "first_drift" (sp_first_drift K C)) (D : Df K mg "find_fall" st_find_fall ["meter"]) : Cal P w K mg base 4 "find_fall" (sp_find_fall K C) := by
  refine cal_of D sc_find_fall (fun vs H Q E h => ?_) (fun f cdv A outer s H vs Q E hr h => ?_)
  · obtain ⟨p, F, m, c, a, pp, g, rfl, _⟩ := h
    rfl
  · have sc := sc_find_fall
    refine ⟨_, (pss_one
      (ps_ret (pe_c c_first_drift hr (by decide) rfl (pa_cons (pv 0) (pa_cons (pe_tup (pa_cons (pe_un un_neg pe_int) pa_nil)) pa_nil))))), ?_⟩
    obtain ⟨p, F, m, c, a, pp, g, rfl, at0, mw, q⟩ := h
    refine st_retV at0 (EvP.toV (ev_callP (eap_consV (ev_var rfl) (eap_one (ev_tup (ea_cons (ev_neg ev_c) ea_nil) (show 1 ≤ 100000 by decide)))) fun vs F1 H1 s1 hv a1 Q k => ?_)) q
    obtain ⟨r, rfl, y, rfl, sn, rfl, nsn, hsn⟩ := hv
    exact ⟨_, F1, m, sn, c, a, pp, g, [-1], rfl, a1, mw.mono s1, .of hsn, by decide, by decide, fun H' a' => k _ F1 H' (Same.refl _) a' rfl⟩
end
end PA
namespace PA
open PySem PyProof.Rows L2
section
variable {P : Program} {w : World} {K : PySem.W.Frag} {mg : Str → Option Value} {base : Heap}
abbrev st_find_rise : Stmt := top 27
theorem sc_find_rise : FnScope ["meter"] ["meter"] (defScope st_find_rise) := ⟨rfl, rfl, rfl, by decide +kernel, rfl, by decide +kernel, by decide +kernel⟩
theorem cal_find_rise (M : Bl mg) {C : Cs} (T : Tx K C.c C.m C.s) (c_first_drift : Cal P w K mg base 3 "first_drift" (sp_first_drift K C)) (D : Df K mg "find_rise" st_find_rise ["meter"]) : Cal P w K mg base 4 "find_rise" (sp_find_rise K C) := by
  refine cal_of D sc_find_rise (fun vs H Q E h => ?_) (fun f cdv A outer s H vs Q E hr h => ?_)
  · obtain ⟨p, F, m, c, a, pp, g, rfl, _⟩ := h
    rfl
  · have sc := sc_find_rise
    refine ⟨_, (pss_one
      (ps_ret (pe_c c_first_drift hr (by decide) rfl (pa_cons (pv 0) (pa_cons (pe_tup (pa_cons pe_int pa_nil)) pa_nil))))), ?_⟩
    obtain ⟨p, F, m, c, a, pp, g, rfl, at0, mw, q⟩ := h
    refine st_retV at0 (EvP.toV (ev_callP (eap_consV (ev_var rfl) (eap_one (ev_tup (ea_cons ev_c ea_nil) (show 1 ≤ 100000 by decide)))) fun vs F1 H1 s1 hv a1 Q k => ?_)) q
    obtain ⟨r, rfl, y, rfl, sn, rfl, nsn, hsn⟩ := hv
    exact ⟨_, F1, m, sn, c, a, pp, g, [1], rfl, a1, mw.mono s1, .of hsn, by decide, by decide, fun H' a' => k _ F1 H' (Same.refl _) a' rfl⟩
end
end PA
namespace PA
open PySem PyProof.Rows L2
section
variable {P : Program} {w : World} {K : PySem.W.Frag} {mg : Str → Option Value} {base : Heap}
def J_ur (p : Wd) (ch r Rw : Addr) (c : List Int) (a : Arr) (run : List Nat) : LJ := fun i σ' p' _ => ∃ v4 : Option V, p' = .own p Rw (.lst ((List.range i).map fun j => V.int (U c a run j))) ∧ σ' = [some (.ref ch), some (.ref r), some (.ref Rw), some (.int (T c a run i)), v4]
abbrev st_used_row : Stmt := top 31
theorem sc_used_row : FnScope ["chart", "run", "row", "total", "place"] ["chart", "run"] (defScope st_used_row) := ⟨rfl, rfl, rfl, by decide +kernel, rfl, by decide +kernel, by decide +kernel⟩
theorem cal_used_row (M : Bl mg) {C : Cs} (T : Tx K C.c C.m C.s) (c_places_of : Cal P w K mg base 3 "places_of" (sp_places_of K C)) (D : Df K mg "used_row" st_used_row ["chart", "run"]) : Cal P w K mg base 4 "used_row" (sp_used_row K C) := by
  refine cal_of D sc_used_row (fun vs H Q E h => ?_) (fun f cdv A outer s H vs Q E hr h => ?_)
  · obtain ⟨p, F, ch, r, c, a, run, rfl, _⟩ := h
    rfl
  · have sc := sc_used_row
    refine ⟨_, (pss_cons
      (ps_set (i := 2) sc.nd rfl (Or.inl rfl) (pe_lst pa_nil))
      (pss_cons
      (ps_set (i := 3) sc.nd rfl (Or.inl rfl) pe_int)
      (pss_cons
      (ps_for PassesOwn.never rfl (pi_tupK (K := K) rfl (pe_c c_places_of hr (by decide) rfl (pa_cons (pv 0) (pa_cons (pv 1) pa_nil)))) (pg_name (i := 4) sc.nd rfl (Or.inl rfl))
      (pss_cons
      (ps_aug (i := 3) sc.nd rfl (Or.inl rfl) (pe_ix (ix_K (K := K)) (pe_fldK (K := K) rfl (pv 0) rfl) (pv 4) (fun _ _ => rfl)) ip_add)
      (pss_one
      (ps_expr (pe_bm PySem.F.plainAttrs_list PySem.F.slot_list_append PySem.F.type_list_append mt_append (pv 2) (pa_cons (pv 3) pa_nil))))))
      (pss_one
      (ps_ret (pe_callTy (call_tupK (K := K)) rfl M.b_tuple bt_tuple (pa_cons (pv 2) pa_nil))))))), ?_⟩
    obtain ⟨p, F, ch, r, c, a, run, rfl, at0, hch, hC, hr', hrun, hlen, q⟩ := h
    refine sq (st_asgM at0 (ev_lst ea_nil (show 0 ≤ 100000 by decide)) fun Rw H1 nR at1 => ?_)
    refine sq (st_asgV at1 ev_c fun H2 at2 => ?_)
    refine sq (st_forTP (Pt := fun _ xs _ => xs = plV a run) (fun _ _ => J_ur p ch r Rw c a run) at2 (ev_call (ea_cons (ev_var rfl) (ea_cons (ev_var rfl) ea_nil)) fun F2 H2 s2 a2 Q k => ⟨_, F2, ch, r, c, a, run, rfl, a2, hch.mono s2, hr'.mono s2, hrun, hlen, fun v F3 H3 s3 a3 ⟨q, ev, hq⟩ => k v F3 H3 s3 a3 ⟨q, _, ev, hq, rfl⟩⟩) (fun _ _ _ _ _ => ⟨none, rfl, rfl⟩) ?_ ?_)
    · rintro xa xs F1 i x σ' p' F2 H' s1 rfl hi s2 a2 ⟨v4, rfl, rfl⟩
      have hil : i < run.length + 1 := by have := (List.getElem?_eq_some_iff.mp hi).1; unfold plV at this; rw [List.length_map, List.length_range] at this; exact this
      unfold plV at hi
      rw [List.getElem?_map, List.getElem?_range hil] at hi
      obtain rfl := Option.some.inj hi
      have hp := plc_lt hC hrun (i := i) (by omega)
      have c2 := hch.mono (s1.trans s2)
      obtain ⟨ca, e1, h1⟩ := c2.costs T (te := tVar 0) (p := .own p Rw (.lst ((List.range i).map fun j => V.int (U c a run j)))) (σ := [some (.ref ch), some (.ref r), some (.ref Rw), some (.int (PA.T c a run i)), some (.int (plc a run i : Int))]) (ev_var rfl)
      refine sq (st_aug (i := PA.T c a run i) a2 rfl (ev_ii e1 (ev_var rfl) h1.s hp) fun H3 a3 => ?_)
      refine st_app a3 (ev_var rfl) (Ev.toP (ev_var rfl)) (by rw [List.length_map, List.length_range]; omega) fun v F4 H4 s4 a4 ev => ?_
      subst ev
      exact ⟨_, F4, s2.trans s4, a4, _, by rw [List.range_succ, List.map_append]; rfl, rfl⟩
    · rintro xa xs F1 σ' p' F2 H' s1 rfl s2 a2 ⟨v4, rfl, rfl⟩
      have el : (plV a run).length = run.length + 1 := by unfold plV; rw [List.length_map, List.length_range]
      rw [el] at a2
      refine st_ret a2.give (ev_tupL (ev_var rfl) (.of upd_same)) fun v F3 H3 s3 a3 ⟨t, ev, _, ht⟩ => q v F3 H3 ((s1.trans s2).trans (a2.give_same.trans s3)) a3 ⟨t, ev, ?_⟩
      unfold IT usV
      rw [List.map_map]
      exact .of ht
end
end PA
namespace PA
open PySem PyProof.Rows L2
section
variable {P : Program} {w : World} {K : PySem.W.Frag} {mg : Str → Option Value} {base : Heap}
abbrev st_extreme_worths : Stmt := top 35
theorem sc_extreme_worths : FnScope ["meter", "sense", "drift", "rows", "place", "row"] ["meter", "sense"] (defScope st_extreme_worths) := ⟨rfl, rfl, rfl, by decide +kernel, rfl, by decide +kernel, by decide +kernel⟩
theorem cal_extreme_worths (M : Bl mg) {C : Cs} (T : Tx K C.c C.m C.s) (c_find_fall : Cal P w K mg base 4 "find_fall" (sp_find_fall K C)) (c_find_rise : Cal P w K mg base 4 "find_rise" (sp_find_rise K C)) (c_lead_rows : Cal P w K mg base 2 "lead_rows" (sp_lead_rows K C)) (D : Df K mg "extreme_worths" st_extreme_worths ["meter", "sense"]) : Cal P w K mg base 5 "extreme_worths" (sp_extreme_worths K C) := by
  refine cal_of D sc_extreme_worths (fun vs H Q E h => ?_) (fun f cdv A outer s H vs Q E hr h => ?_)
  · obtain ⟨p, F, m, c, a, pp, g, s, rfl, _⟩ := h
    rfl
  · have sc := sc_extreme_worths
    refine ⟨_, (pss_cons
      (ps_set (i := 2) sc.nd rfl (Or.inl rfl) (pe_ifExp (pt_cmpR op_eq (pv 1) pe_int (nomark _)) (pe_c c_find_rise hr (by decide) rfl (pa_cons (pv 0) pa_nil)) (pe_c c_find_fall hr (by decide) rfl (pa_cons (pv 0) pa_nil))))
      (pss_cons
      (ps_if (pt_cmpR o_notN (pv 2) pe_non (nomark _))
      (pss_one
      ps_never)
      pss_nil)
      (pss_cons
      (ps_set (i := 3) sc.nd rfl (Or.inr rfl) (pe_c c_lead_rows hr (by decide) rfl (pa_cons (pv 0) (pa_cons (pv 1) pa_nil))))
      (pss_one
      (ps_ret (pe_lc (own := [("place", 4)]) rfl sc.nd (pi_range1 rfl M.b_range (pa_cons (pe_callB (call_lenK (K := K)) rfl M.b_len bt_len (pa_cons (pe_fldK (K := K) rfl (pe_fldK (K := K) rfl (pv 0) rfl) rfl) pa_nil)) pa_nil)) (blkOk_by (by kernel_rfl)) (fun _ _ _ _ _ => (pg_name (i := 4) sc.nd rfl (Or.inr rfl))) (fun _ _ _ _ _ => pts_nil) (fun _ _ _ _ _ => (pe_callB (cr_maxK (K := K) rfl rfl) rfl M.b_max bt_max (pa_cons (pe_lc (own := [("row", 5)]) rfl sc.nd (pi_listK (K := K) rfl (pv 3)) (blkOk_by (by kernel_rfl)) (fun _ _ _ _ _ => (pg_name (i := 5) sc.nd rfl (Or.inl rfl))) (fun _ _ _ _ _ => (pts_one (pt_cmpR o_notN (pe_ix (ix_K (K := K)) (pv 5) (pv 4) (fun _ _ => rfl)) pe_non (nomark _)))) (fun _ _ _ _ _ => (pe_ix (ix_K (K := K)) (pv 5) (pv 4) (fun _ _ => rfl)))) pa_nil))))))))), ?_⟩
    obtain ⟨p, F, m, c, a, pp, g, s, rfl, at0, mw, hs, q⟩ := h
    have n1 := mw.ch.n1
    have n2 := mw.ch.n2
    have pl := mw.len
    refine sq (st_asg (P := fun v _ => v = .non) at0 (ev_ifT (et_test (ev_eq (ev_var rfl) ev_c rfl)) (fun _ => Ev.toP (ev_callV (ea_cons (ev_var rfl) ea_nil) fun F1 H s1 a1 Q k => ⟨p, F1, m, c, a, pp, g, rfl, a1, mw.mono s1, k⟩)) (fun _ => Ev.toP (ev_callV (ea_cons (ev_var rfl) ea_nil) fun F1 H s1 a1 Q k => ⟨p, F1, m, c, a, pp, g, rfl, a1, mw.mono s1, k⟩))) fun v F1 H1 s1 at1 ev => ?_)
    subst ev
    refine sq (st_no at1 ((et_test (ev_notN (ev_var rfl))).is rfl) fun H2 at2 => ?_)
    dsimp only [tNext]
    refine sq (st_asg at2 (ev_call (ea_cons (ev_var rfl) (ea_cons (ev_var rfl) ea_nil)) fun F2 H s2 a2 Q k => ⟨p, F2, m, c, a, pp, g, s, rfl, a2, mw.mono (s1.trans s2), hs, k⟩) fun v F2 H3 s2 at3 ⟨R, ev, rs, hR, hl, hrs⟩ => ?_)
    subst ev
    have mw2 := mw.mono (s1.trans s2)
    obtain ⟨ca, e1, h1⟩ := mw2.costs T (te := tVar 0) (p := p) (σ := [some (.ref m), some (.int s), some .non, some (.ref R), none, none]) (ev_var rfl)
    refine st_ret (P := fun v F3 => ∃ q, v = .ref q ∧ IL K F3 q (pp.map fun x => s * x)) at3 ((ev_lcR (n := c.length) (J := fun i acc _ => acc = (List.range i).map fun j => V.int (s * nth pp j)) (ea_cons ((ev_len e1 h1.s).is (by rw [List.length_map])) ea_nil) (by omega) (fun _ => rfl) (fun _ _ => rfl) fun i acc F3 p' hi s3 j hln hD => LcT.all ((ev_cbP (P := fun v _ => v = .int (s * nth pp i)) (eap_one ((ev_lcL (J := fun i' acc _ => ∃ m', acc = List.replicate m' (V.int (s * nth pp i)) ∧ ((∃ k, k < i' ∧ Wk a k i) → 0 < m')) (ev_var rfl) (s3.seq hR) (by rw [List.length_map]; omega) (fun _ => rfl) (fun _ _ => ⟨0, rfl, fun ⟨k, h, _⟩ => absurd h (Nat.not_lt_zero _)⟩) fun i' y acc F4 p'' hi' s4 j' hl' hD' => ?_))) ?_).imp ?_)).imp ?_) fun v F3 H4 s3 a3 h => q v F3 H4 (s1.trans (s2.trans s3)) a3 h
    · -- one row
      rw [List.getElem?_map] at hi'
      cases hr : rs[i']? with
      | none => rw [hr] at hi'; cases hi'
      | some r =>
        rw [hr] at hi'
        obtain rfl := Option.some.inj hi'
        obtain ⟨row, r1, r2, r3⟩ := hrs i' r hr
        have r1' := (s3.trans s4).seq r1
        obtain ⟨m', em, hm⟩ := j'
        rcases r2.get hi with hx | hx
        · refine ⟨_, EvT.toP ((et_test (ev_notN (ev_ix (ev_var rfl) (ev_var rfl) (.l r1') (at_get hx)))).is (by rfl : _ = false)), fun e => absurd e (by decide), fun _ => ⟨m', em, fun ⟨k, hk, w⟩ => ?_⟩⟩
          by_cases z : k = i'
          · subst z; exact absurd hx (r3 i w hi)
          · exact hm ⟨k, by omega, w⟩
        · refine ⟨_, EvT.toP ((et_test (ev_notN (ev_ix (ev_var rfl) (ev_var rfl) (.l r1') (at_get hx)))).is (by rfl : _ = true)), fun _ => (ev_ix (ev_var rfl) (ev_var rfl) (.l r1') (at_get hx)).toPP fun F5 _ => ⟨m' + 1, by rw [em, List.replicate_succ'], fun _ => Nat.succ_pos _⟩, fun e => absurd e (by decide)⟩
    · rintro vs F4 H5 s4 ⟨x, rfl, q2, xs, F5, rfl, _, n5, ef, s5, hlx, m', ex, hm⟩ a4 Q' k
      subst ef
      rw [List.length_map, hl] at hm
      obtain ⟨kk, hkk, wk⟩ := (mw.ch.reach i hi).wk mw.ch.ends n1
      have hm0 := hm ⟨kk, hkk, wk⟩
      refine ⟨q2, List.replicate m' (s * nth pp i), rfl, a4.l (.of (by rw [upd_same, ex, List.map_replicate])), by rw [List.length_replicate]; exact hm0, fun mx hmx _ => ?_⟩
      rw [List.eq_of_mem_replicate hmx]
      exact k _ _ _ (Same.refl _) a4 rfl
    · rintro v F4 s4 rfl
      rw [j, List.range_succ, List.map_append]
      rfl
    · rintro v F4 s4 ⟨q2, xs, F5, ev, _, n5, ef, s5, _, ex⟩
      refine ⟨q2, ev, ?_⟩
      rw [ef]
      refine .of ?_
      rw [upd_same, ex]
      congr 2
      rw [List.map_map]
      refine List.ext_getElem? fun i => ?_
      rw [List.getElem?_map, List.getElem?_map]
      by_cases hi : i < c.length
      · rw [List.getElem?_range hi, nth_get (by omega)]
        rfl
      · rw [List.getElem?_eq_none (by rw [List.length_range]; omega), List.getElem?_eq_none (by omega)]
        rfl
end
end PA
namespace PA
open PySem PyProof.Rows L2
section
variable {P : Program} {w : World} {K : PySem.W.Frag} {mg : Str → Option Value} {base : Heap}
abbrev st_plain_stop : Stmt := top 50
theorem sc_plain_stop : FnScope ["chart", "run", "limit", "used"] ["chart", "run", "limit"] (defScope st_plain_stop) := ⟨rfl, rfl, rfl, by decide +kernel, rfl, by decide +kernel, by decide +kernel⟩
theorem cal_plain_stop (M : Bl mg) {C : Cs} (T : Tx K C.c C.m C.s) (c_check_limit : Cal P w K mg base 2 "check_limit" sp_check_limit) (c_check_run : Cal P w K mg base 2 "check_run" (sp_check_run K C)) (c_used_row : Cal P w K mg base 4 "used_row" (sp_used_row K C)) (D : Df K mg "plain_stop" st_plain_stop ["chart", "run", "limit"]) : Cal P w K mg base 5 "plain_stop" (sp_plain_stop K C) := by
  refine cal_of D sc_plain_stop (fun vs H Q E h => ?_) (fun f cdv A outer s H vs Q E hr h => ?_)
  · obtain ⟨p, F, ch, r, c, a, run, lim, rfl, _⟩ := h
    rfl
  · have sc := sc_plain_stop
    refine ⟨_, (pss_cons
      (ps_set (i := 1) sc.nd rfl (Or.inl rfl) (pe_c c_check_run hr (by decide) rfl (pa_cons (pv 0) (pa_cons (pv 1) pa_nil))))
      (pss_cons
      (ps_expr (pe_c c_check_limit hr (by decide) rfl (pa_cons (pv 2) pa_nil)))
      (pss_one
      (ps_ret (pe_callB (call_lenK (K := K)) rfl M.b_len bt_len (pa_cons (pe_lc (own := [("used", 3)]) rfl sc.nd (pi_tupK (K := K) rfl (pe_c c_used_row hr (by decide) rfl (pa_cons (pv 0) (pa_cons (pv 1) pa_nil)))) (blkOk_by (by kernel_rfl)) (fun _ _ _ _ _ => (pg_name (i := 3) sc.nd rfl (Or.inl rfl))) (fun _ _ _ _ _ => (pts_one (pt_cmpR op_le (pv 3) (pv 2) (nomark _)))) (fun _ _ _ _ _ => (pv 3))) pa_nil)))))), ?_⟩
    obtain ⟨p, F, ch, r, c, a, run, lim, rfl, at0, hch, hC, hr', hrun, hlen, hl0, hl1, q⟩ := h
    refine sq (st_asg at0 (ev_call (ea_cons (ev_var rfl) (ea_cons (ev_var rfl) ea_nil)) fun F1 H s1 a1 Q k => ⟨p, F1, ch, r, c, a, run, rfl, a1, hch.mono s1, hr'.mono s1, hrun, hlen, k⟩) fun v F1 H3 s1 at3 ⟨t, ev, ht⟩ => ?_)
    subst ev
    have pc : Ev p (tCall sp_check_limit [] E0 (tCons (tVar 2) tNil)) [some (.ref ch), some (.ref t), some (.int lim), none] F1 (.int lim) := ev_callV (ea_cons (ev_var rfl) ea_nil) fun F2 H s2 a2 Q k => ⟨p, F2, lim, rfl, a2, hl0, hl1, k⟩
    refine sq (pc F1 H3 (Same.refl _) at3 _ fun H4 at4 => ?_)
    refine st_ret (P := fun v _ => ∃ k : Nat, v = .int (k : Int) ∧ PlainR c a run lim k) at4 (ev_cbP (eap_one ((ev_lcTP (Pt := fun xs _ => xs = (usV c a run).map V.int) (J := fun _ i acc _ => acc = (((usV c a run).take i).filter fun x => decide (x ≤ lim)).map V.int) (ev_call (ea_cons (ev_var rfl) (ea_cons (ev_var rfl) ea_nil)) fun F2 H s2 a2 Q k => ⟨p, F2, ch, t, c, a, run, rfl, a2, hch.mono (s1.trans s2), hC, .inr (ht.mono s2), hrun, hlen, fun v F3 H3 s3 a3 ⟨q2, ev, hq⟩ => k v F3 H3 s3 a3 ⟨q2, _, ev, hq, by unfold usV; rw [List.length_map, List.length_map, List.length_range]; omega, rfl⟩⟩) (fun _ => rfl) (fun _ _ _ _ => rfl) fun xs F2 i y acc F3 p' s2 ex hi s3 j hl hD => ?_).imp (P' := fun v F2 => ∃ q2, v = .ref q2 ∧ F2 q2 = some (.lst (((usV c a run).filter fun x => decide (x ≤ lim)).map V.int))) ?_)) ?_) ?_
    · subst ex
      have hil : i < (usV c a run).length := by have := (List.getElem?_eq_some_iff.mp hi).1; rw [List.length_map] at this; exact this
      have hi2 := nth_get hil
      rw [List.getElem?_map, hi2] at hi
      obtain rfl := Option.some.inj hi
      refine ⟨_, EvT.toP (et_test (ev_le (ev_var rfl) (ev_var rfl))), fun e => (ev_var rfl).toPP fun F4 _ => ?_, fun e => ?_⟩
      · rw [j, List.take_add_one, hi2, List.filter_append, List.map_append]
        simp [Option.toList, List.filter, ← e]
      · rw [j, List.take_add_one, hi2, List.filter_append, List.map_append]
        simp [Option.toList, List.filter, ← e]
    · rintro v F2 s2 ⟨xs, F3, s3, rfl, q2, ys, F4, ev, _, n4, ef, s4, _, ey⟩
      refine ⟨q2, ev, ?_⟩
      rw [ef, upd_same, ey, List.length_map, List.take_length]
    · rintro vs F2 H5 s2 ⟨x, rfl, q2, rfl, h2⟩ a2 Q' k
      refine ⟨_, _, rfl, .inl ⟨_, a2.l (.of h2), rfl⟩, ?_⟩
      rw [List.length_map]
      exact k _ F2 _ (Same.refl _) a2 ⟨_, rfl, plain_filt hC⟩
    · rintro v F2 H5 s2 a2 ⟨k, rfl, hk⟩
      exact q k hk _ (a2.less (s1.trans s2))
end
end PA
namespace PA
open PySem PyProof.Rows L2
section
variable {P : Program} {w : World} {K : PySem.W.Frag} {mg : Str → Option Value} {base : Heap}
abbrev st_low_leads : Stmt := top 36
theorem sc_low_leads : FnScope ["meter", "worth"] ["meter"] (defScope st_low_leads) := ⟨rfl, rfl, rfl, by decide +kernel, rfl, by decide +kernel, by decide +kernel⟩
theorem cal_low_leads (M : Bl mg) {C : Cs} (T : Tx K C.c C.m C.s) (c_extreme_worths : Cal P w K mg base 5 "extreme_worths" (sp_extreme_worths K C)) (D : Df K mg "low_leads" st_low_leads ["meter"]) : Cal P w K mg base 6 "low_leads" (sp_low_leads K C) := by
  refine cal_of D sc_low_leads (fun vs H Q E h => ?_) (fun f cdv A outer s H vs Q E hr h => ?_)
  · obtain ⟨p, F, m, c, a, pp, g, rfl, _⟩ := h
    rfl
  · have sc := sc_low_leads
    refine ⟨_, (pss_one
      (ps_ret (pe_callTy (call_tupK (K := K)) rfl M.b_tuple bt_tuple (pa_cons (pe_lc (own := [("worth", 1)]) rfl sc.nd (pi_listK (K := K) rfl (pe_c c_extreme_worths hr (by decide) rfl (pa_cons (pv 0) (pa_cons (pe_un un_neg pe_int) pa_nil)))) (blkOk_by (by kernel_rfl)) (fun _ _ _ _ _ => (pg_name (i := 1) sc.nd rfl (Or.inl rfl))) (fun _ _ _ _ _ => pts_nil) (fun _ _ _ _ _ => (pe_un un_neg (pv 1)))) pa_nil)))), ?_⟩
    obtain ⟨p, F, m, c, a, pp, g, rfl, at0, mw, q⟩ := h
    have n2 := mw.ch.n2
    have pl := mw.len
    refine st_ret at0 ((ev_tupM (Pt := fun xs _ => xs = pp.map V.int) ((ev_lcLP (Pt := fun xs _ => xs = (pp.map fun x => -1 * x).map V.int) (J := fun _ i acc _ => acc = (pp.map V.int).take i) (ev_callP (eap_consV (ev_var rfl) (eap_one (Ev.toP (ev_neg ev_c)))) fun vs F1 H1 s1 hv a1 Q k => ?_) (fun _ => rfl) (fun _ _ _ _ => rfl) fun xs F2 i y acc F3 p' s2 ex hi s3 j hl hD => LcT.all ?_).imp ?_)).imp ?_) q
    · obtain ⟨r, rfl, x, rfl, rfl⟩ := hv
      exact ⟨p, F1, m, c, a, pp, g, -1, rfl, a1, mw.mono s1, .inr rfl, fun v F2 H2 s2 a2 ⟨q2, ev, hq⟩ => k v F2 H2 s2 a2 ⟨q2, _, ev, hq, by rw [List.length_map, List.length_map]; omega, rfl⟩⟩
    · subst ex
      have hil : i < pp.length := by have := (List.getElem?_eq_some_iff.mp hi).1; rw [List.length_map, List.length_map] at this; exact this
      rw [List.getElem?_map, List.getElem?_map, nth_get hil] at hi
      obtain rfl := Option.some.inj hi
      refine (ev_neg (ev_var rfl)).toPP fun F4 _ => ?_
      rw [j, List.take_add_one, List.getElem?_map, nth_get hil]
      have e : -(-1 * nth pp i) = nth pp i := by omega
      rw [e]
      rfl
    · rintro v F2 s2 ⟨xs, F3, s3, rfl, q2, ys, F4, ev, _, n4, ef, s4, _, ey⟩
      refine ⟨q2, ys, ev, by rw [ef]; exact .of upd_same, ?_⟩
      rw [ey, List.length_map, List.length_map]
      exact List.take_of_length_le (by rw [List.length_map]; exact Nat.le_refl _)
    · rintro v F2 s2 ⟨q2, xs, F3, ev, _, n3, s3, ef, ex⟩
      subst ex ef
      exact ⟨q2, ev, .of upd_same⟩
end
end PA
namespace PA
open PySem PyProof.Rows L2
section
variable {P : Program} {w : World} {K : PySem.W.Frag} {mg : Str → Option Value} {base : Heap}
theorem one_times (pp : List Int) : (pp.map fun x => 1 * x).map V.int = pp.map V.int := by
  rw [List.map_map]
  refine List.map_congr_left fun x _ => ?_
  show V.int (1 * x) = V.int x
  rw [Int.one_mul]
abbrev st_high_leads : Stmt := top 37
theorem sc_high_leads : FnScope ["meter"] ["meter"] (defScope st_high_leads) := ⟨rfl, rfl, rfl, by decide +kernel, rfl, by decide +kernel, by decide +kernel⟩
theorem cal_high_leads (M : Bl mg) {C : Cs} (T : Tx K C.c C.m C.s) (c_extreme_worths : Cal P w K mg base 5 "extreme_worths" (sp_extreme_worths K C)) (D : Df K mg "high_leads" st_high_leads ["meter"]) : Cal P w K mg base 6 "high_leads" (sp_high_leads K C) := by
  refine cal_of D sc_high_leads (fun vs H Q E h => ?_) (fun f cdv A outer s H vs Q E hr h => ?_)
  · obtain ⟨p, F, m, c, a, pp, g, rfl, _⟩ := h
    rfl
  · have sc := sc_high_leads
    refine ⟨_, (pss_one
      (ps_ret (pe_callTy (call_tupK (K := K)) rfl M.b_tuple bt_tuple (pa_cons (pe_c c_extreme_worths hr (by decide) rfl (pa_cons (pv 0) (pa_cons pe_int pa_nil))) pa_nil)))), ?_⟩
    obtain ⟨p, F, m, c, a, pp, g, rfl, at0, mw, q⟩ := h
    refine st_ret at0 ((ev_tupM (Pt := fun xs _ => xs = pp.map V.int) (ev_call (ea_cons (ev_var rfl) (ea_cons ev_c ea_nil)) fun F1 H1 s1 a1 Q k => ⟨p, F1, m, c, a, pp, g, 1, rfl, a1, mw.mono s1, .inl rfl, fun v F2 H2 s2 a2 ⟨q2, ev, hq⟩ => k v F2 H2 s2 a2 ⟨q2, _, ev, hq, one_times pp⟩⟩)).imp ?_) q
    · rintro v F2 s2 ⟨q2, xs, F3, ev, _, n3, s3, ef, ex⟩
      subst ex ef
      exact ⟨q2, ev, .of upd_same⟩
end
end PA
namespace PA
open PySem PyProof.Rows L2
section
variable {P : Program} {w : World} {K : PySem.W.Frag} {mg : Str → Option Value} {base : Heap}
def J_el (p : Wd) (m lo hi : Addr) : LJ := fun _ σ' p' _ => ∃ v4 v5 : Option V, p' = p ∧ σ' = [some (.ref m), some .non, some (.ref lo), some (.ref hi), v4, v5]
abbrev st_even_leads : Stmt := top 44
theorem sc_even_leads : FnScope ["meter", "drift", "lows", "highs", "place", "run"] ["meter"] (defScope st_even_leads) := ⟨rfl, rfl, rfl, by decide +kernel, rfl, by decide +kernel, by decide +kernel⟩
theorem cal_even_leads (M : Bl mg) {C : Cs} (T : Tx K C.c C.m C.s) (c_find_drift : Cal P w K mg base 4 "find_drift" (sp_find_drift K C)) (c_high_leads : Cal P w K mg base 6 "high_leads" (sp_high_leads K C)) (c_low_leads : Cal P w K mg base 6 "low_leads" (sp_low_leads K C)) (D : Df K mg "even_leads" st_even_leads ["meter"]) : Cal P w K mg base 7 "even_leads" (sp_even_leads K C) := by
  refine cal_of D sc_even_leads (fun vs H Q E h => ?_) (fun f cdv A outer s H vs Q E hr h => ?_)
  · obtain ⟨p, F, m, c, a, pp, g, rfl, _⟩ := h
    rfl
  · have sc := sc_even_leads
    refine ⟨_, (pss_cons
      (ps_set (i := 1) sc.nd rfl (Or.inl rfl) (pe_c c_find_drift hr (by decide) rfl (pa_cons (pv 0) pa_nil)))
      (pss_cons
      (ps_if (pt_cmpR o_notN (pv 1) pe_non (nomark _))
      pss_never
      pss_nil)
      (pss_cons
      (ps_set (i := 2) sc.nd rfl (Or.inl rfl) (pe_c c_low_leads hr (by decide) rfl (pa_cons (pv 0) pa_nil)))
      (pss_cons
      (ps_set (i := 3) sc.nd rfl (Or.inl rfl) (pe_c c_high_leads hr (by decide) rfl (pa_cons (pv 0) pa_nil)))
      (pss_cons
      (ps_for PassesOwn.never rfl (pi_range1 rfl M.b_range (pa_cons (pe_callB (call_lenK (K := K)) rfl M.b_len bt_len (pa_cons (pv 2) pa_nil)) pa_nil)) (pg_name (i := 4) sc.nd rfl (Or.inl rfl))
      (pss_one
      (ps_if (pt_cmpR op_lt (pe_ix (ix_K (K := K)) (pv 2) (pv 4) (fun _ _ => rfl)) (pe_ix (ix_K (K := K)) (pv 3) (pv 4) (fun _ _ => rfl)) (nomark _))
      pss_never
      pss_nil)))
      (pss_one
      (ps_ret (pv 2)))))))), ?_⟩
    obtain ⟨p, F, m, c, a, pp, g, rfl, at0, mw, q⟩ := h
    have n2 := mw.ch.n2
    have pl := mw.len
    refine sq (st_asgV at0 (ev_callV (ea_cons (ev_var rfl) ea_nil) fun F1 H s1 a1 Q k => ⟨p, F1, m, c, a, pp, g, rfl, a1, mw.mono s1, k⟩) fun H1 at1 => ?_)
    refine sq (st_no at1 ((et_test (ev_notN (ev_var rfl))).is rfl) fun H2 at2 => ?_)
    dsimp only [tNext]
    refine sq (st_asg at2 (ev_call (ea_cons (ev_var rfl) ea_nil) fun F1 H s1 a1 Q k => ⟨p, F1, m, c, a, pp, g, rfl, a1, mw.mono s1, k⟩) fun v F1 H3 s1 at3 ⟨lo, ev, hlo⟩ => ?_)
    subst ev
    refine sq (st_asg at3 (ev_call (ea_cons (ev_var rfl) ea_nil) fun F2 H s2 a1 Q k => ⟨p, F2, m, c, a, pp, g, rfl, a1, mw.mono (s1.trans s2), k⟩) fun v F2 H4 s2 at4 ⟨hi, ev, hhi⟩ => ?_)
    subst ev
    refine sq (st_forR1 (n := c.length) (J_el p m lo hi) at4 (ea_cons ((ev_len (ev_var rfl) (.t (same_t s2 hlo))).is (by rw [List.length_map, pl])) ea_nil) (by omega) ⟨none, none, rfl, rfl⟩ ?_ ?_)
    · rintro i σ' p' F3 H5 hil s3 a3 ⟨v4, v5, rfl, rfl⟩
      exact st_no a3 ((et_test (ev_lt (ev_ii (ev_var rfl) (ev_var rfl) (.t (same_t (s2.trans s3) hlo)) (by omega)) (ev_ii (ev_var rfl) (ev_var rfl) (.t (same_t s3 hhi)) (by omega)))).is (by simp)) fun H6 a6 => ⟨_, F3, s3, a6, _, _, rfl, rfl⟩
    · rintro σ' p' F3 H5 s3 a3 ⟨v4, v5, rfl, rfl⟩
      exact st_retV (σ := [some (.ref m), some .non, some (.ref lo), some (.ref hi), v4, v5]) (D := { nx := fun x H' => Q V.non H', rt := Q }) a3 (ev_var rfl) fun H6 a6 => q _ F3 _ (s1.trans (s2.trans s3)) a6 ⟨lo, rfl, same_t (s2.trans s3) hlo⟩
end
end PA
namespace PA
open PySem PyProof.Rows L2
section
variable {P : Program} {w : World} {K : PySem.W.Frag} {mg : Str → Option Value} {base : Heap}
def J_gl (p : Wd) (m lo : Addr) : LJ := fun _ σ' p' _ => ∃ v2 v3 : Option V, p' = p ∧ σ' = [some (.ref m), some (.ref lo), v2, v3]
abbrev st_good_leads : Stmt := top 49
theorem sc_good_leads : FnScope ["meter", "leads", "place", "lead"] ["meter"] (defScope st_good_leads) := ⟨rfl, rfl, rfl, by decide +kernel, rfl, by decide +kernel, by decide +kernel⟩
theorem cal_good_leads (M : Bl mg) {C : Cs} (T : Tx K C.c C.m C.s) (c_even_leads : Cal P w K mg base 7 "even_leads" (sp_even_leads K C)) (D : Df K mg "good_leads" st_good_leads ["meter"]) : Cal P w K mg base 8 "good_leads" (sp_good_leads K C) := by
  refine cal_of D sc_good_leads (fun vs H Q E h => ?_) (fun f cdv A outer s H vs Q E hr h => ?_)
  · obtain ⟨p, F, m, c, a, pp, g, rfl, _⟩ := h
    rfl
  · have sc := sc_good_leads
    refine ⟨_, (pss_cons
      (ps_set (i := 1) sc.nd rfl (Or.inl rfl) (pe_c c_even_leads hr (by decide) rfl (pa_cons (pv 0) pa_nil)))
      (pss_cons
      (ps_if (pt_not (pt_truK (K := K) rfl (pe_callB (isi_K (K := K)) rfl M.b_isinstance bt_isinstance (pa_cons (pv 1) (pa_cons (pe_bltn (v := .ty "tuple") rfl M.b_tuple bt_tuple rfl) pa_nil)))))
      (pss_one
      ps_never)
      pss_nil)
      (pss_cons
      (ps_for PassesOwn.never rfl (pi_enK (K := K) rfl rfl M.b_enumerate (pa_cons (pv 1) pa_nil)) (pg_tupK (K := K) (n := 2) rfl rfl (pgs_cons (pg_name (i := 2) sc.nd rfl (Or.inl rfl)) (pgs_cons (pg_name (i := 3) sc.nd rfl (Or.inl rfl)) pgs_nil)))
      (pss_one
      (ps_if (pt_cmpR op_lt (pv 3) (pe_ix (ix_K (K := K)) (pe_fldK (K := K) rfl (pe_fldK (K := K) rfl (pv 0) rfl) rfl) (pv 2) (fun _ _ => rfl)) (nomark _))
      (pss_one
      ps_never)
      pss_nil)))
      (pss_one
      (ps_ret (pv 1)))))), ?_⟩
    obtain ⟨p, F, m, c, a, pp, g, rfl, at0, mw, q⟩ := h
    have pl := mw.len
    refine sq (st_asg at0 (ev_call (ea_cons (ev_var rfl) ea_nil) fun F1 H s1 a1 Q k => ⟨p, F1, m, c, a, pp, g, rfl, a1, mw.mono s1, k⟩) fun v F1 H3 s1 at3 ⟨lo, ev, hlo⟩ => ?_)
    subst ev
    refine sq (st_no at3 ((et_not (et_bl (ev_isTup (ev_var rfl) hlo))).is rfl) fun H4 at4 => ?_)
    dsimp only [tNext]
    refine sq (st_forE2 (J_gl p m lo) at4 (ea_cons (ev_var rfl) ea_nil) (.inr hlo) ⟨none, none, rfl, rfl⟩ ?_ ?_)
    · rintro i y σ' p' F3 H5 hi s3 a3 ⟨v2, v3, rfl, rfl⟩
      have hil : i < pp.length := by have := (List.getElem?_eq_some_iff.mp hi).1; rw [List.length_map] at this; exact this
      rw [List.getElem?_map, nth_get hil] at hi
      obtain rfl := Option.some.inj hi
      have hcv := mw.mt.cov i (by omega)
      obtain ⟨ca, e1, h1⟩ := (mw.mono (s1.trans s3)).costs T (te := tVar 0) (p := p') (σ := [some (.ref m), some (.ref lo), some (.int (i : Int)), some (.int (nth pp i))]) (ev_var rfl)
      exact st_no a3 ((et_test (ev_lt (ev_var rfl) (ev_ii e1 (ev_var rfl) h1.s (by omega)))).is (by simp; omega)) fun H6 a6 => ⟨_, F3, s3, a6, _, _, rfl, rfl⟩
    · rintro σ' p' F3 H5 s3 a3 ⟨v2, v3, rfl, rfl⟩
      exact st_retV (σ := [some (.ref m), some (.ref lo), v2, v3]) (D := { nx := fun x H' => Q V.non H', rt := Q }) a3 (ev_var rfl) fun H6 a6 => q _ F3 _ (s1.trans s3) a6 ⟨lo, rfl, same_t s3 hlo⟩
end
end PA
namespace PA
open PySem PyProof.Rows L2
section
variable {P : Program} {w : World} {K : PySem.W.Frag} {mg : Str → Option Value} {base : Heap}
def J_op (p : Wd) (m t sr : Addr) (a : Arr) (pp g : List Int) (run : List Nat) (lim : Int) : LJ := fun i σ' p' _ => ∃ v5 v6 : Option V, p' = p ∧ σ' = [some (.ref m), some (.ref t), some (.int lim), some (.int (lim - Pd (nth pp 0) g run i)), some (.ref sr), v5, v6] ∧ ∀ j, j ≤ i → Pd (nth pp 0) g run j ≤ lim
/-- a Stop is made -/
theorem ev_stop {P : Program} {w : World} {K : PySem.W.Frag} {C : Cs} (T : Tx K C.c C.m C.s) {p : Wd} {F : Hp} {σ : L2.St} {ta : TA} {pl un : Int} {E : XK} (h : EvA p ta σ F [.int pl, .int un]) : EvP p (tMake C.s (sp_stop_init C) [] E ta) σ F (fun v F2 => ∃ q dx fs, v = .ref q ∧ F2 q = some (.ins C.s dx fs) ∧ fs.lookup ("places" : Str) = some (.int pl) ∧ fs.lookup ("unused" : Str) = some (.int un)) :=
  ev_make h fun F1 H x dx s1 a1 hx hdx hne Q k => ⟨p, F1, x, dx, pl, un, rfl, (a1.new0 hdx).mine (by rw [upd_ne hne.symm]; exact hx), fun H' fs a2 l1 l2 => ⟨rfl, k _ _ _ a2.give_same a2.give ⟨x, dx, fs, rfl, upd_same, l1, l2⟩⟩⟩
abbrev st_one_paced : Stmt := top 51
theorem sc_one_paced : FnScope ["meter", "run", "limit", "purse", "row", "index", "arrow"] ["meter", "run", "limit"] (defScope st_one_paced) := ⟨rfl, rfl, rfl, by decide +kernel, rfl, by decide +kernel, by decide +kernel⟩
theorem cal_one_paced (M : Bl mg) {C : Cs} (T : Tx K C.c C.m C.s) (c_check_limit : Cal P w K mg base 2 "check_limit" sp_check_limit) (c_check_run : Cal P w K mg base 2 "check_run" (sp_check_run K C)) (c_good_leads : Cal P w K mg base 8 "good_leads" (sp_good_leads K C)) (c_used_row : Cal P w K mg base 4 "used_row" (sp_used_row K C)) (m_stop : Mak P w K mg base 1 "Stop" C.s (sp_stop_init C)) (D : Df K mg "one_paced" st_one_paced ["meter", "run", "limit"]) : Cal P w K mg base 9 "one_paced" (sp_one_paced K C) := by
  refine cal_of D sc_one_paced (fun vs H Q E h => ?_) (fun f cdv A outer s H vs Q E hr h => ?_)
  · obtain ⟨p, F, m, r, c, a, pp, g, run, lim, rfl, _⟩ := h
    rfl
  · have sc := sc_one_paced
    refine ⟨_, (pss_cons
      (ps_expr (pe_c c_good_leads hr (by decide) rfl (pa_cons (pv 0) pa_nil)))
      (pss_cons
      (ps_set (i := 1) sc.nd rfl (Or.inl rfl) (pe_c c_check_run hr (by decide) rfl (pa_cons (pe_fldK (K := K) rfl (pv 0) rfl) (pa_cons (pv 1) pa_nil))))
      (pss_cons
      (ps_set (i := 3) sc.nd rfl (Or.inl rfl) (pe_op op_sub (pe_c c_check_limit hr (by decide) rfl (pa_cons (pv 2) pa_nil)) (pe_fldK (K := K) rfl (pv 0) rfl)))
      (pss_cons
      (ps_if (pt_cmpR op_lt (pv 3) pe_int (nomark _))
      (pss_one
      (ps_ret (pe_mk m_stop hr (by decide) rfl (pa_cons pe_int (pa_cons (pv 2) pa_nil)))))
      pss_nil)
      (pss_cons
      (ps_set (i := 4) sc.nd rfl (Or.inl rfl) (pe_c c_used_row hr (by decide) rfl (pa_cons (pe_fldK (K := K) rfl (pv 0) rfl) (pa_cons (pv 1) pa_nil))))
      (pss_cons
      (ps_for PassesOwn.never rfl (pi_enK (K := K) rfl rfl M.b_enumerate (pa_cons (pv 1) pa_nil)) (pg_tupK (K := K) (n := 2) rfl rfl (pgs_cons (pg_name (i := 5) sc.nd rfl (Or.inl rfl)) (pgs_cons (pg_name (i := 6) sc.nd rfl (Or.inl rfl)) pgs_nil)))
      (pss_cons
      (ps_if (pt_cmpR op_gt (pe_ix (ix_K (K := K)) (pe_fldK (K := K) rfl (pv 0) rfl) (pv 6) (fun _ _ => rfl)) (pv 3) (nomark _))
      (pss_one
      (ps_ret (pe_mk m_stop hr (by decide) rfl (pa_cons (pe_op op_add (pv 5) pe_int) (pa_cons (pe_op op_sub (pv 2) (pe_ix (ix_K (K := K)) (pv 4) (pv 5) (fun _ _ => rfl))) pa_nil)))))
      pss_nil)
      (pss_one
      (ps_aug (i := 3) sc.nd rfl (Or.inl rfl) (pe_ix (ix_K (K := K)) (pe_fldK (K := K) rfl (pv 0) rfl) (pv 6) (fun _ _ => rfl)) ip_sub))))
      (pss_one
      (ps_ret (pe_mk m_stop hr (by decide) rfl (pa_cons (pe_op op_add (pe_callB (call_lenK (K := K)) rfl M.b_len bt_len (pa_cons (pv 1) pa_nil)) pe_int) (pa_cons (pe_op op_sub (pv 2) (pe_ix (ix_K (K := K)) (pv 4) (pe_callB (call_lenK (K := K)) rfl M.b_len bt_len (pa_cons (pv 1) pa_nil)) (fun _ _ => rfl))) pa_nil))))))))))), ?_⟩
    obtain ⟨p, F, m, r, c, a, pp, g, run, lim, rfl, at0, mw, hr', hrun, hlen, hl0, hl1, q⟩ := h
    have fin : ∀ {σ : L2.St} {te : TE} {H : Hp} {F1 : Hp} {pl : Nat} {un : Int} (st : Bool), Same F F1 → At p F1 H → EvP p te σ F1 (fun v F2 => ∃ q dx fs, v = .ref q ∧ F2 q = some (.ins C.s dx fs) ∧ fs.lookup ("places" : Str) = some (.int (pl : Int)) ∧ fs.lookup ("unused" : Str) = some (.int un)) → OneR c a g (nth pp 0) run lim pl un st → te σ H Q := fun st s1 a1 he ho => he _ _ (Same.refl _) a1 _ fun v F2 H2 s2 a2 ⟨q2, dx, fs, ev, e2, e3, e4⟩ => q v F2 H2 (s1.trans s2) a2 ⟨q2, dx, fs, _, _, st, ev, e2, e3, e4, ho⟩
    have gl : EvP p (tCall (sp_good_leads K C) [] E0 (tCons (tVar 0) tNil)) [some (.ref m), some (.ref r), some (.int lim), none, none, none, none] F (fun _ _ => True) := ev_call (ea_cons (ev_var rfl) ea_nil) fun F1 H s1 a1 Q k => ⟨p, F1, m, c, a, pp, g, rfl, a1, mw.mono s1, fun v F2 H2 s2 a2 _ => k v F2 H2 s2 a2 True.intro⟩
    refine sq (gl F H (Same.refl _) at0 _ fun v F1 H1 s1 at1 _ => ?_)
    obtain ⟨y, e1, h1⟩ := (mw.mono s1).h.chart T (te := tVar 0) (p := p) (σ := [some (.ref m), some (.ref r), some (.int lim), none, none, none, none]) (ev_var rfl)
    refine sq (st_asg at1 (ev_call (ea_cons e1 (ea_cons (ev_var rfl) ea_nil)) fun F2 H s2 a2 Q k => ⟨p, F2, y, r, c, a, run, rfl, a2, h1.mono s2, hr'.mono (s1.trans s2), hrun, hlen, k⟩) fun v F2 H2 s2 at2 ⟨t, ev, ht⟩ => ?_)
    subst ev
    have s12 := s1.trans s2
    refine sq (st_asgV at2 (ev_sub (ev_callV (ea_cons (ev_var rfl) ea_nil) fun F3 H s3 a3 Q k => ⟨p, F3, lim, rfl, a3, hl0, hl1, k⟩) ((mw.mono s12).h.first T (ev_var rfl))) fun H3 at3 => ?_)
    refine sq (st_if at3 (et_test (ev_lt (ev_var rfl) ev_c)) (fun hb H4 at4 => ?_) (fun hb H4 at4 => ?_))
    · have hlt : lim - nth pp 0 < 0 := of_decide_eq_true hb
      exact fin (pl := 0) (un := lim) true s12 at4 (ev_stop (P := P) (w := w) T (ea_cons ev_c (ea_cons (ev_var rfl) ea_nil))) ⟨.inl ⟨by omega, rfl, rfl, rfl⟩⟩
    have hge : nth pp 0 ≤ lim := by have := of_decide_eq_false hb; omega
    dsimp only [tNext]
    obtain ⟨y2, e2, h2⟩ := (mw.mono s12).h.chart T (te := tVar 0) (p := p) (σ := [some (.ref m), some (.ref t), some (.int lim), some (.int (lim - nth pp 0)), none, none, none]) (ev_var rfl)
    refine sq (st_asg at4 (ev_call (ea_cons e2 (ea_cons (ev_var rfl) ea_nil)) fun F3 H s3 a3 Q k => ⟨p, F3, y2, t, c, a, run, rfl, a3, h2.mono s3, mw.ch, .inr (ht.mono s3), hrun, hlen, k⟩) fun v F3 H5 s3 at5 ⟨sr, ev, hsr⟩ => ?_)
    subst ev
    have s13 := s12.trans s3
    have hul : (usV c a run).length = run.length + 1 := by unfold usV; rw [List.length_map, List.length_range]
    have hun : ∀ i, i ≤ run.length → nth (usV c a run) i = U c a run i := fun i hi => by
      have e := nth_get (xs := usV c a run) (i := i) (by omega)
      unfold usV at e
      rw [List.getElem?_map, List.getElem?_range (by omega)] at e
      exact (Option.some.inj e).symm
    have hml : (run.map fun (k : Nat) => V.int (k : Int)).length = run.length := by rw [List.length_map]
    refine sq (st_forE2 (J_op p m t sr a pp g run lim) at5 (ea_cons (ev_var rfl) ea_nil) (.inr (ht.mono s3)) ⟨none, none, rfl, rfl, fun j hj => by (obtain rfl : j = 0 := by omega); exact hge⟩ ?_ ?_)
    · rintro i y3 σ' p' F4 H6 hi s4 a6 ⟨v5, v6, rfl, rfl, hpd⟩
      have hil : i < run.length := by have := (List.getElem?_eq_some_iff.mp hi).1; rw [hml] at this; exact this
      rw [run_get hil] at hi
      obtain rfl := Option.some.inj hi
      have hlt := hrun.lt hil
      have s14 := s13.trans s4
      obtain ⟨ga, e3, h3⟩ := (mw.mono s14).h.charges T (te := tVar 0) (p := p') (σ := [some (.ref m), some (.ref t), some (.int lim), some (.int (lim - Pd (nth pp 0) g run i)), some (.ref sr), some (.int (i : Int)), some (.int (rn run i : Int))]) (ev_var rfl)
      have hgl : rn run i < g.length := by rw [mw.mt.gl]; exact hlt
      have epd : Pd (nth pp 0) g run (i + 1) = Pd (nth pp 0) g run i + nth g (rn run i) := rfl
      refine sq (st_if a6 (et_test (ev_gt (ev_ii e3 (ev_var rfl) h3.s hgl) (ev_var rfl))) (fun hb H7 a7 => ?_) (fun hb H7 a7 => ?_))
      · have hgt : lim - Pd (nth pp 0) g run i < nth g (rn run i) := of_decide_eq_true hb
        refine fin (pl := i + 1) (un := lim - U c a run i) true s14 a7 (ev_stop (P := P) (w := w) T (ea_cons ((ev_add (ev_var rfl) ev_c).is (by rfl)) (ea_cons ((ev_sub (ev_var rfl) (ev_ii (ev_var rfl) (ev_var rfl) (.t (same_t s4 hsr)) (by omega))).is (by rw [hun i (by omega)])) ea_nil))) ⟨.inr ⟨hge, i, by omega, rfl, rfl, hpd, .inl ⟨hil, by omega, rfl⟩⟩⟩
      · have hle : ¬ (lim - Pd (nth pp 0) g run i < nth g (rn run i)) := of_decide_eq_false hb
        dsimp only [tNext]
        refine st_aug (i := lim - Pd (nth pp 0) g run i) a7 rfl (ev_ii e3 (ev_var rfl) h3.s hgl) fun H8 a8 => ?_
        have e4 : lim - Pd (nth pp 0) g run i - nth g (rn run i) = lim - Pd (nth pp 0) g run (i + 1) := by omega
        rw [e4]
        refine ⟨_, F4, s4, a8, _, _, rfl, rfl, fun j hj => ?_⟩
        by_cases z : j = i + 1
        · subst z; omega
        · exact hpd j (by omega)
    · rintro σ' p' F4 H6 s4 a6 ⟨v5, v6, rfl, rfl, hpd⟩
      rw [hml] at hpd ⊢
      have s14 := s13.trans s4
      have htl := same_t (s3.trans s4) ht
      have el : Ev p' (tCB (rLen K) (tCons (tVar 1) tNil)) [some (.ref m), some (.ref t), some (.int lim), some (.int (lim - Pd (nth pp 0) g run run.length)), some (.ref sr), v5, v6] F4 (.int (run.length : Int)) := (ev_len (ev_var rfl) (.t htl)).is (by rw [hml])
      exact fin (σ := [some (.ref m), some (.ref t), some (.int lim), some (.int (lim - Pd (nth pp 0) g run run.length)), some (.ref sr), v5, v6]) (pl := run.length + 1) (un := lim - U c a run run.length) false s14 a6 (ev_stop (P := P) (w := w) T (ea_cons ((ev_add el ev_c).is (by rfl)) (ea_cons ((ev_sub (ev_var rfl) (ev_ii (ev_var rfl) el (.t (same_t s4 hsr)) (by omega))).is (by rw [hun _ (Nat.le_refl _)])) ea_nil))) ⟨.inr ⟨hge, run.length, Nat.le_refl _, rfl, rfl, hpd, .inr ⟨rfl, rfl⟩⟩⟩
end
end PA
namespace PA
open PySem PyProof.Rows L2
section
variable {P : Program} {w : World} {K : PySem.W.Frag} {mg : Str → Option Value} {base : Heap}
def J_lh (s C : Addr) (ns : List Int) : LJ := fun i σ' p' _ => ∃ (t : Int) (v3 : Option V), 0 ≤ t ∧ t < 2147483647 ∧ p' = .own .nil C (.lst ((ns.take i).map fun x => V.int (if x < 0 then -x else x))) ∧ σ' = [some (.ref s), some (.int t), some (.ref C), v3]
abbrev st_law_hand : Stmt := top 56
theorem sc_law_hand : FnScope ["_law_script", "_law_total", "_law_cells", "_law_cell"] ["_law_script"] (defScope st_law_hand) := ⟨rfl, rfl, rfl, by decide +kernel, rfl, by decide +kernel, by decide +kernel⟩
theorem cal_law_hand (M : Bl mg) {C : Cs} (T : Tx K C.c C.m C.s) (D : Df K mg "_law_hand" st_law_hand ["_law_script"]) : Cal P w K mg base 1 "_law_hand" (sp_law_hand K) := by
  refine cal_of D sc_law_hand (fun vs H Q E h => ?_) (fun f cdv A outer s H vs Q E hr h => ?_)
  · obtain ⟨F, s, ns, rfl, _⟩ := h
    rfl
  · have sc := sc_law_hand
    refine ⟨_, (pss_cons
      (ps_set (i := 1) sc.nd rfl (Or.inl rfl) (pe_op op_add (pe_callB (call_lenK (K := K)) rfl M.b_len bt_len (pa_cons (pv 0) pa_nil)) pe_int))
      (pss_cons
      (ps_set (i := 2) sc.nd rfl (Or.inl rfl) (pe_lst pa_nil))
      (pss_cons
      (ps_for PassesOwn.never rfl (pi_listK (K := K) rfl (pv 0)) (pg_name (i := 3) sc.nd rfl (Or.inl rfl))
      (pss_cons
      (ps_set (i := 1) sc.nd rfl (Or.inl rfl) (pe_op op_mod (pe_callTy call_intK rfl M.b_int bt_int (pa_cons (pe_op op_add (pe_op op_mul (pv 1) pe_int) (pe_callTy call_intK rfl M.b_int bt_int (pa_cons (pv 3) pa_nil))) pa_nil)) pe_int))
      (pss_one
      (ps_expr (pe_bm PySem.F.plainAttrs_list PySem.F.slot_list_append PySem.F.type_list_append mt_append (pv 2) (pa_cons (pe_callB call_absK rfl M.b_abs bt_abs (pa_cons (pe_callTy call_intK rfl M.b_int bt_int (pa_cons (pv 3) pa_nil)) pa_nil)) pa_nil))))))
      (pss_one
      (ps_ret (pe_lst (pa_cons (pv 2) (pa_cons pe_int (pa_cons pe_int (pa_cons (pv 1) pa_nil)))))))))), ?_⟩
    obtain ⟨F, s, ns, rfl, at0, hs, hlen, q⟩ := h
    refine sq (st_asgV at0 ((ev_add (ev_len (ev_var rfl) (.l hs)) ev_c).is (by rw [List.length_map])) fun H1 a1 => ?_)
    refine sq (st_asgM a1 (ev_lst ea_nil (show 0 ≤ 100000 by decide)) fun C H2 nC a2 => ?_)
    refine sq (st_forL (J_lh s C ns) a2 (ev_var rfl) hs ⟨(ns.length : Int) + 37, none, by omega, by omega, rfl, rfl⟩ ?_ ?_)
    · rintro i x σ' p' F' H' hi s' a' ⟨t, v3, t0, t1, rfl, rfl⟩
      have hil : i < ns.length := by have := (List.getElem?_eq_some_iff.mp hi).1; rw [List.length_map] at this; exact this
      have hn := nth_get hil
      rw [List.getElem?_map, hn] at hi
      obtain rfl := Option.some.inj hi
      refine sq (st_asgV a' (ev_mod (ev_int (ev_add (ev_mul (ev_var rfl) ev_c (.inr (by decide))) (ev_int (ev_var rfl)))) ev_c (by decide)) fun H3 a3 => ?_)
      refine st_app a3 (ev_var rfl) (Ev.toP (ev_abs (ev_int (ev_var rfl)))) (by rw [List.length_map, List.length_take]; omega) fun v F4 H4 s4 a4 ev => ?_
      subst ev
      exact ⟨_, F4, s'.trans s4, a4, (t * 1709 + nth ns i) % 2147483549, _, by omega, by omega, by rw [List.take_add_one, hn, List.map_append]; rfl, rfl⟩
    · rintro σ' p' F' H' s' a' ⟨t, v3, t0, t1, rfl, rfl⟩
      rw [List.length_map, List.take_length] at a'
      have gs := a'.give_same
      refine st_ret a'.give (ev_lst (ea_cons (ev_var rfl) (ea_cons ev_c (ea_cons ev_c (ea_cons (ev_var rfl) ea_nil)))) (show 4 ≤ 100000 by decide)) fun v F4 H4 s4 a4 ⟨h, ev, nh, hh⟩ => ?_
      subst ev
      have a5 : At (.own .nil h (hnd C 0 0 t)) (upd F' C (.lst (ns.map fun x => V.int (if x < 0 then -x else x)))) H4 := a4.take hh nh s4
      refine q h C _ H4 (s'.trans gs) ⟨fun b o e => ?_, 0, 0, t, a5.mine_at, by omega, by omega, t0⟩ ⟨C, ns.map (fun x => if x < 0 then -x else x), ⟨rfl, rfl⟩, .of (by rw [upd_same, List.map_map]; rfl), by rw [List.length_map]; exact hlen, fun x hx => ?_⟩
      · exact a5.1 b o e
      · obtain ⟨y, _, rfl⟩ := List.mem_map.mp hx
        split <;> omega
end
end PA
namespace PA
open PySem PyProof.Rows L2
section
variable {P : Program} {w : World} {K : PySem.W.Frag} {mg : Str → Option Value} {base : Heap}
abbrev st_law_mixed : Stmt := top 57
theorem sc_law_mixed : FnScope ["_law_number", "_law_turn", "_law_once", "_law_twice"] ["_law_number", "_law_turn"] (defScope st_law_mixed) := ⟨rfl, rfl, rfl, by decide +kernel, rfl, by decide +kernel, by decide +kernel⟩
theorem cal_law_mixed (M : Bl mg) {C : Cs} (T : Tx K C.c C.m C.s) (D : Df K mg "_law_mixed" st_law_mixed ["_law_number", "_law_turn"]) : Cal P w K mg base 1 "_law_mixed" sp_law_mixed := by
  refine cal_of D sc_law_mixed (fun vs H Q E h => ?_) (fun f cdv A outer s H vs Q E hr h => ?_)
  · obtain ⟨p, F, a, b, rfl, _⟩ := h
    rfl
  · have sc := sc_law_mixed
    refine ⟨_, (pss_cons
      (ps_set (i := 2) sc.nd rfl (Or.inl rfl) (pe_op op_mod (pe_callTy call_intK rfl M.b_int bt_int (pa_cons (pe_op op_add (pe_op op_add (pe_op op_mul (pv 0) pe_int) (pe_op op_mul (pv 1) pe_int)) pe_int) pa_nil)) pe_int))
      (pss_cons
      (ps_set (i := 3) sc.nd rfl (Or.inl rfl) (pe_op op_mod (pe_callTy call_intK rfl M.b_int bt_int (pa_cons (pe_op op_add (pe_op op_add (pe_op op_mul (pv 2) (pv 2)) (pe_op op_mul (pv 1) pe_int)) (pe_op op_fdiv (pv 2) pe_int)) pa_nil)) pe_int))
      (pss_one
      (ps_ret (pe_op op_fdiv (pe_callTy call_intK rfl M.b_int bt_int (pa_cons (pe_op op_mod (pe_callTy call_intK rfl M.b_int bt_int (pa_cons (pe_op op_add (pe_op op_mul (pv 3) pe_int) (pe_op op_fdiv (pv 2) pe_int)) pa_nil)) pe_int) pa_nil)) pe_int))))), ?_⟩
    obtain ⟨p, F, a, b, rfl, at0, q⟩ := h
    have cm : ∀ i : Int, CMul i 48271 := fun i => .inr (by decide)
    have cm2 : ∀ i : Int, CMul i 7919 := fun i => .inr (by decide)
    have cm3 : ∀ i : Int, CMul i 92821 := fun i => .inr (by decide)
    have cm4 : ∀ i : Int, CMul i 69621 := fun i => .inr (by decide)
    refine sq (st_asgV at0 (ev_mod (ev_int (ev_add (ev_add (ev_mul (ev_var rfl) ev_c (cm _)) (ev_mul (ev_var rfl) ev_c (cm2 _))) ev_c)) ev_c (by decide)) fun H1 a1 => ?_)
    have b1 : -2 ^ 64 < (a * 48271 + b * 7919 + 30011) % 2147483399 ∧ (a * 48271 + b * 7919 + 30011) % 2147483399 < 2 ^ 64 := by omega
    generalize (a * 48271 + b * 7919 + 30011) % 2147483399 = x at b1 ⊢
    refine sq (st_asgV a1 (ev_mod (ev_int (ev_add (ev_add (ev_mul (ev_var rfl) (ev_var rfl) (.inl b1)) (ev_mul (ev_var rfl) ev_c (cm3 _))) (ev_fdiv (ev_var rfl) ev_c ⟨by decide, by decide⟩))) ev_c (by decide)) fun H2 a2 => ?_)
    generalize (x * x + b * 92821 + x / 131) % 2147483629 = y
    exact st_retV a2 (ev_fdiv (ev_int (ev_mod (ev_int (ev_add (ev_mul (ev_var rfl) ev_c (cm4 _)) (ev_fdiv (ev_var rfl) ev_c ⟨by decide, by decide⟩))) ev_c (by decide))) ev_c ⟨by decide, by decide⟩) (q _)
end
end PA
namespace PA
open PySem PyProof.Rows L2
section
variable {P : Program} {w : World} {K : PySem.W.Frag} {mg : Str → Option Value} {base : Heap}
abbrev st_law_places : Stmt := top 64
theorem sc_law_places : FnScope ["_law_arrows", "_law_run_here", "_law_arrow"] ["_law_arrows", "_law_run_here"] (defScope st_law_places) := ⟨rfl, rfl, rfl, by decide +kernel, rfl, by decide +kernel, by decide +kernel⟩
theorem cal_law_places (M : Bl mg) {C : Cs} (T : Tx K C.c C.m C.s) (D : Df K mg "_law_places" st_law_places ["_law_arrows", "_law_run_here"]) : Cal P w K mg base 1 "_law_places" (sp_law_places K) := by
  refine cal_of D sc_law_places (fun vs H Q E h => ?_) (fun f cdv A outer s H vs Q E hr h => ?_)
  · obtain ⟨p, F, aa, r, a, run, rfl, _⟩ := h
    rfl
  · have sc := sc_law_places
    refine ⟨_, (pss_one
      (ps_ret (pe_op op_cat (pe_lst (pa_cons pe_int pa_nil)) (pe_lc (own := [("_law_arrow", 2)]) rfl sc.nd (pi_tupK (K := K) rfl (pv 1)) (blkOk_by (by kernel_rfl)) (fun _ _ _ _ _ => (pg_name (i := 2) sc.nd rfl (Or.inl rfl))) (fun _ _ _ _ _ => pts_nil) (fun _ _ _ _ _ => (pe_ix (ix_K (K := K)) (pe_ix (ix_K (K := K)) (pv 0) (pv 2) (fun _ _ => rfl)) pe_int (fun _ _ => rfl))))))), ?_⟩
    obtain ⟨p, F, aa, r, a, run, rfl, at0, haa, hr', hrun, hlen, q⟩ := h
    have e0 : plV a run = [V.int 0] ++ (List.range run.length).map fun j => V.int (plc a run (j + 1) : Int) := by
      unfold plV
      rw [List.range_succ_eq_map, List.map_cons, List.map_map]
      rfl
    have hml : (run.map fun (k : Nat) => V.int (k : Int)).length = run.length := by rw [List.length_map]
    rw [e0] at q
    refine st_ret at0 (ev_cat ((ev_lst (ea_cons ev_c ea_nil) (show 1 ≤ 100000 by decide)).imp fun v F2 _ ⟨l, ev, _, e⟩ => ⟨l, ev, e⟩) (fun F1 s1 => (ev_lcT (J := fun i acc _ => acc = (List.range i).map fun j => V.int (plc a run (j + 1) : Int)) (ev_var rfl) (hr'.mono s1) (by rw [hml]; omega) (fun _ => rfl) (fun _ _ => rfl) fun i y acc F3 p' hi s3 j hl hD => LcT.all ?_).imp ?_) ?_) q
    · have hil : i < run.length := by have := (List.getElem?_eq_some_iff.mp hi).1; rw [hml] at this; exact this
      rw [run_get hil] at hi
      obtain rfl := Option.some.inj hi
      refine (ev_a1 (ev_var rfl) (ev_var rfl) (haa.mono (s1.trans s3)) (hrun.lt hil)).toPP fun F4 _ => ?_
      rw [j, List.range_succ, List.map_append, ← plc_succ hil]
      rfl
    · rintro v F2 s2 ⟨q2, ys, F4, ev, _, n4, ef, s4, _, ey⟩
      rw [hml] at ey
      exact ⟨q2, ev, by rw [ef, ey]; exact upd_same⟩
    · rw [List.length_map, List.length_range]
      show 1 + run.length ≤ 100000
      omega
end
end PA
namespace PA
open PySem PyProof.Rows L2
section
variable {P : Program} {w : World} {K : PySem.W.Frag} {mg : Str → Option Value} {base : Heap}
abbrev lzR (c fl : List Int) : List Int := (List.range c.length).map fun v => if nth fl v > nth c v then nth fl v else nth c v
theorem lz_at {c fl : List Int} {v : Nat} (h : v < c.length) : nth (lzR c fl) v = if nth fl v > nth c v then nth fl v else nth c v := by
  have e := nth_get (xs := lzR c fl) (i := v) (by rw [List.length_map, List.length_range]; exact h)
  rw [List.getElem?_map, List.getElem?_range h] at e
  exact (Option.some.inj e).symm
abbrev full (a : Arr) (lot : List Int) : Prop := ∀ k : Nat, k < a.length → (k : Int) ∈ lot
abbrev slots (ca aa la fa Ld : Addr) (v5 v6 v7 v8 v9 v10 : Option V) : L2.St := [some (.ref ca), some (.ref aa), some (.ref la), some (.ref fa), some (.ref Ld), v5, v6, v7, v8, v9, v10]
def J_ll (p : Wd) (ca aa la fa Ld : Addr) (c : List Int) (a : Arr) (lot fl : List Int) : LJ := fun i σ' p' _ => ∃ (L : List Int) (b : Nat) (v5 v6 v7 v8 v9 v10 : Option V), p' = .own p Ld (.lst (L.map V.int)) ∧ σ' = slots ca aa la fa Ld v5 v6 v7 v8 v9 v10 ∧ Lo c (lzR c fl) a (full a lot) L i b ∧ b ≤ 32 * i
def J_ll2 (p : Wd) (ca aa la fa Ld : Addr) (c : List Int) (a : Arr) (lot fl Lr : List Int) (i : Nat) : LJ := fun k σ' p' _ => ∃ (L : List Int) (b : Nat) (ch : Bool) (v5 v7 v8 v9 v10 : Option V), p' = .own p Ld (.lst (L.map V.int)) ∧ σ' = slots ca aa la fa Ld v5 (some (.bl ch)) v7 v8 v9 v10 ∧ Ls c (lzR c fl) a (full a lot) Lr L k ch b ∧ b ≤ 32 * i + k
abbrev st_law_least : Stmt := top 67
theorem sc_law_least : FnScope ["_law_costs_here", "_law_arrows", "_law_lot_here", "_law_floors", "_law_leads", "_law_turn", "_law_changed", "_law_arrow", "_law_place", "_law_tail", "_law_head"] ["_law_costs_here", "_law_arrows", "_law_lot_here", "_law_floors"] (defScope st_law_least) := ⟨rfl, rfl, rfl, by decide +kernel, rfl, by decide +kernel, by decide +kernel⟩
theorem cal_law_least (M : Bl mg) {C : Cs} (T : Tx K C.c C.m C.s) (D : Df K mg "_law_least" st_law_least ["_law_costs_here", "_law_arrows", "_law_lot_here", "_law_floors"]) : Cal P w K mg base 1 "_law_least" (sp_law_least K) := by
  refine cal_of D sc_law_least (fun vs H Q E h => ?_) (fun f cdv A outer s H vs Q E hr h => ?_)
  · obtain ⟨p, F, ca, aa, la, fa, c, a, lot, fl, rfl, _⟩ := h
    rfl
  · have sc := sc_law_least
    refine ⟨_, (pss_cons
      (ps_setLc (i := 4) (own := [("_law_place", 8)]) rfl sc.nd rfl rfl (sw_true rfl rfl rfl (by kernel_rfl)) (pi_range1 rfl M.b_range (pa_cons (pe_callB (call_lenK (K := K)) rfl M.b_len bt_len (pa_cons (pv 0) pa_nil)) pa_nil)) (blkOk_by (by kernel_rfl)) (fun _ _ _ _ _ => (pg_name (i := 8) sc.nd rfl (Or.inl rfl))) (fun _ _ _ _ _ => pts_nil) (fun _ _ _ _ _ => (pe_callB (call_max2K rfl) rfl M.b_max bt_max (pa_cons (pe_ix (ix_K (K := K)) (pv 0) (pv 8) (fun _ _ => rfl)) (pa_cons (pe_ix (ix_K (K := K)) (pv 3) (pv 8) (fun _ _ => rfl)) pa_nil)))))
      (pss_cons
      (ps_for PassesOwn.never rfl (pi_range1 rfl M.b_range (pa_cons (pe_op op_add (pe_callB (call_lenK (K := K)) rfl M.b_len bt_len (pa_cons (pv 0) pa_nil)) pe_int) pa_nil)) (pg_name (i := 5) sc.nd rfl (Or.inl rfl))
      (pss_cons
      (ps_set (i := 6) sc.nd rfl (Or.inl rfl) pe_bl)
      (pss_cons
      (ps_for PassesOwn.never rfl (pi_range1 rfl M.b_range (pa_cons (pe_callB (call_lenK (K := K)) rfl M.b_len bt_len (pa_cons (pv 1) pa_nil)) pa_nil)) (pg_name (i := 7) sc.nd rfl (Or.inl rfl))
      (pss_cons
      (ps_asg (pe_ix (ix_K (K := K)) (pv 1) (pv 7) (fun _ _ => rfl)) (pg_tupK (K := K) (n := 2) rfl rfl (pgs_cons (pg_name (i := 9) sc.nd rfl (Or.inl rfl)) (pgs_cons (pg_name (i := 10) sc.nd rfl (Or.inl rfl)) pgs_nil))))
      (pss_cons
      (ps_if (pt_cmpR op_lt (pe_ix (ix_K (K := K)) (pv 4) (pv 10) (fun _ _ => rfl)) (pe_op op_sub (pe_ix (ix_K (K := K)) (pv 4) (pv 9) (fun _ _ => rfl)) (pe_ix (ix_K (K := K)) (pv 0) (pv 9) (fun _ _ => rfl))) (nomark _))
      (pss_cons
      (ps_asg (pe_op op_sub (pe_ix (ix_K (K := K)) (pv 4) (pv 9) (fun _ _ => rfl)) (pe_ix (ix_K (K := K)) (pv 0) (pv 9) (fun _ _ => rfl))) (pg_sub (pv 4) (pv 10) set_list))
      (pss_one
      (ps_set (i := 6) sc.nd rfl (Or.inl rfl) pe_bl)))
      pss_nil)
      (pss_one
      (ps_if (PW.pt (pw_and (pt_cmpR (op_niK (K := K)) (pv 7) (pv 2) (by rfl)) (pw_and1 (pt_cmpR op_lt (pe_ix (ix_K (K := K)) (pv 4) (pv 9) (fun _ _ => rfl)) (pe_op op_add (pe_ix (ix_K (K := K)) (pv 4) (pv 10) (fun _ _ => rfl)) (pe_ix (ix_K (K := K)) (pv 0) (pv 9) (fun _ _ => rfl))) (nomark _)))))
      (pss_cons
      (ps_asg (pe_op op_add (pe_ix (ix_K (K := K)) (pv 4) (pv 10) (fun _ _ => rfl)) (pe_ix (ix_K (K := K)) (pv 0) (pv 9) (fun _ _ => rfl))) (pg_sub (pv 4) (pv 9) set_list))
      (pss_one
      (ps_set (i := 6) sc.nd rfl (Or.inl rfl) pe_bl)))
      pss_nil)))))
      (pss_one
      (ps_if (pt_not (pt_truK (K := K) rfl (pv 6)))
      (pss_one
      (ps_ret (pv 4)))
      pss_nil)))))
      (pss_one
      (ps_ret pe_non)))), ?_⟩
    obtain ⟨p, F, ca, aa, la, fa, c, a, lot, fl, rfl, at0, hC, hca, haa, hlot, hfl, hfll, hfb, q⟩ := h
    have n1 := hC.n1
    have n2 := hC.n2
    have nm := hC.m
    obtain ⟨as, ha1, ha2⟩ := haa.len
    refine sq (st_asgLc at0 (ev_lcR (n := c.length) (J := fun i acc _ => acc = ((List.range i).map fun v => if nth fl v > nth c v then nth fl v else nth c v).map V.int) (ea_cons ((ev_len (ev_var rfl) (.t hca)).is (by rw [List.length_map])) ea_nil) (by omega) (fun _ => rfl) (fun _ _ => rfl) fun i acc F' p' hi s' j hl hD => LcT.all ?_) fun Ld xs F1 H1 s1 nL a1 ⟨_, ex⟩ => ?_)
    · obtain ⟨D', rfl⟩ := hD
      refine (ev_max2 (ev_ii (ev_var rfl) (ev_var rfl) (.t (same_t s' hca)) hi) (ev_ii (ev_var rfl) (ev_var rfl) (hfl.mono s').up (by omega))).toPP fun F2 _ => ?_
      rw [j, List.range_succ, List.map_append, List.map_append]
      rfl
    subst ex
    have start : Lo c (lzR c fl) a (full a lot) (lzR c fl) 0 0 := Lo.start hC (by rw [List.length_map, List.length_range]) fun v hv => by
      rw [lz_at hv]
      have := hfb _ (nth_mem (xs := fl) (i := v) (by omega))
      have := (hC.c0 hv).2
      split <;> omega
    have hca1 := same_t s1 hca
    have haa1 := haa.mono s1
    have hlot1 := hlot.mono s1
    refine sq (st_forR1 (n := c.length + 1) (J_ll p ca aa la fa Ld c a lot fl) a1 (ea_cons ((ev_add (ev_len (ev_var rfl) (.t hca1)) ev_c).is (by rw [List.length_map]; rfl)) ea_nil) (by omega) ⟨lzR c fl, 0, none, none, none, none, none, none, rfl, rfl, start, Nat.le_refl _⟩ ?_ ?_)
    · rintro i σ' p' F2 H2 hi s2 a2 ⟨Lr, b, v5, v6, v7, v8, v9, v10, rfl, rfl, hLo, hb⟩
      refine sq (st_asgC a2 fun H3 a3 => ?_)
      refine sq (st_forR1 (n := a.length) (J_ll2 p ca aa la fa Ld c a lot fl Lr i) a3 (ea_cons ((ev_len (ev_var rfl) (.t (same_t (s1.trans s2) ha1))).is (by rw [ha2])) ea_nil) (by omega) ⟨Lr, b, false, _, _, _, _, _, rfl, rfl, hLo.round, by omega⟩ ?_ ?_)
      · rintro k σ' p' F3 H4 hk s3 a4 ⟨L, b, ch, v5, v7, v8, v9, v10, rfl, rfl, hLs, hb⟩
        have he := hC.ar hk
        have s23 := s2.trans s3
        refine sq (st_asgT a4 (ev_ap (ev_var rfl) (ev_var rfl) (haa1.mono s23) hk) fun v F4 H5 s4 a5 ⟨pr, ev, hpr⟩ => ?_)
        subst ev
        refine gt2 (a5.t hpr) ?_
        have s24 := s23.trans s4
        have hcx := same_t s24 hca1
        have hLl := hLs.len
        dsimp only
        refine st_sq2 (fun σ H => ∃ (L : List Int) (b : Nat) (ch : Bool), σ = slots ca aa la fa Ld v5 (some (.bl ch)) (some (.int (k : Int))) v8 (some (.int ((ar a k).1 : Int))) (some (.int ((ar a k).2 : Int))) ∧ (∃ F5, Same F4 F5 ∧ At (.own p Ld (.lst (L.map V.int))) F5 H) ∧ Ls c (lzR c fl) a (full a lot) Lr L (k + 1) ch b ∧ b ≤ 32 * i + k) ?_ fun tail => ?_
        · rintro σ H6 ⟨L, b, ch, rfl, ⟨F5, s5, a6⟩, hLs, hb⟩
          have hLl := hLs.len
          have hcy := same_t s5 hcx
          refine st_if a6 (et_and (et_test (ev_ni (ev_var rfl) (ev_var rfl) ((hlot1.mono (s24.trans s5)).up))) fun _ => et_test (ev_lt (ev_ii (ev_var rfl) (ev_var rfl) .own (by omega)) (ev_add (ev_ii (ev_var rfl) (ev_var rfl) .own (by omega)) (ev_ii (ev_var rfl) (ev_var rfl) (.t hcy) he.1)))) (fun hb2 H7 a7 => ?_) (fun _ H7 a7 => ⟨_, F5, s3.trans (s4.trans s5), a7, L, b, ch, _, _, _, _, _, rfl, rfl, hLs, by omega⟩)
          have hb3 := Bool.and_eq_true_iff.mp hb2
          have nin : ¬ ((k : Int) ∈ lot) := by simpa using hb3.1
          have hlt : nth L (ar a k).1 < nth L (ar a k).2 + nth c (ar a k).1 := of_decide_eq_true hb3.2
          refine sq (st_set a7 (Ev.toP (ev_add (ev_ii (ev_var rfl) (ev_var rfl) .own (by omega)) (ev_ii (ev_var rfl) (ev_var rfl) (.t hcy) he.1))) (ev_var rfl) (ev_var rfl) (by rw [List.length_map]; omega) fun v F6 H8 s6 a8 ev => ?_)
          subst ev
          rw [← List.map_set] at a8
          show Mid F2 (J_ll2 p ca aa la fa Ld c a lot fl Lr i) (k + 1) _ _
          exact ⟨_, F6, s3.trans (s4.trans (s5.trans s6)), a8, _, b + 1, true, _, _, _, _, _, rfl, rfl, hLs.back hC hk (fun z => nin (z k hk)) hlt, by omega⟩
        · refine st_if a5 (et_test (ev_lt (ev_ii (ev_var rfl) (ev_var rfl) .own (by omega)) (ev_sub (ev_ii (ev_var rfl) (ev_var rfl) .own (by omega)) (ev_ii (ev_var rfl) (ev_var rfl) (.t hcx) he.1)))) (fun hb2 H6 a6 => ?_) (fun hb2 H6 a6 => ?_)
          · have hlt : nth L (ar a k).2 < nth L (ar a k).1 - nth c (ar a k).1 := of_decide_eq_true hb2
            refine sq (st_set a6 (Ev.toP (ev_sub (ev_ii (ev_var rfl) (ev_var rfl) .own (by omega)) (ev_ii (ev_var rfl) (ev_var rfl) (.t hcx) he.1))) (ev_var rfl) (ev_var rfl) (by rw [List.length_map]; omega) fun v F6 H8 s6 a8 ev => ?_)
            subst ev
            rw [← List.map_set] at a8
            exact st_asgC a8 fun H9 a9 => tail _ _ ⟨_, b, true, rfl, ⟨F6, s6, a9⟩, hLs.up hC hk hlt, hb⟩
          · have hle : ¬ nth L (ar a k).2 < nth L (ar a k).1 - nth c (ar a k).1 := of_decide_eq_false hb2
            exact tail _ _ ⟨L, b, ch, rfl, ⟨F4, Same.refl _, a6⟩, hLs.none hC hk (by omega), hb⟩
      · rintro σ' p' F3 H4 s3 a4 ⟨L, b, ch, v5, v7, v8, v9, v10, rfl, rfl, hLs, hb⟩
        have s13 := s1.trans (s2.trans s3)
        refine st_if a4 (et_not (et_bl (ev_var rfl))) (fun hb2 H5 a5 => ?_) (fun hb2 H5 a5 => ?_)
        · have hch : ch = false := by simpa using hb2
          subst hch
          refine st_retV a5.give (ev_var rfl) fun H6 a6 => q _ _ H6 (s13.trans a5.give_same) a6 (.inr ⟨Ld, L, rfl, .of upd_same, hLs.len, fun v hv => ?_, fun v hv => ?_, hLs.fin⟩)
          · have := hLs.low v hv
            rw [lz_at hv] at this
            split at this <;> omega
          · have := hLs.hi v hv
            omega
        · have hch : ch = true := by simpa using hb2
          subst hch
          exact ⟨_, F3, s2.trans s3, a5, L, b, _, _, _, _, _, _, rfl, rfl, hLs.next hC hLo, by omega⟩
    · rintro σ' p' F2 H2 s2 a2 ⟨L, b, v5, v6, v7, v8, v9, v10, rfl, rfl, hLo, hb⟩
      have nf : ¬ full a lot := fun z => by
        have := (hLo.ful z).2.2
        omega
      exact st_retV (σ := []) (te := tC .non) (D := { nx := fun x H' => Q V.non H', rt := Q }) a2.give ev_c fun H3 a3 => q _ _ H3 (s1.trans (s2.trans a2.give_same)) a3 (.inl ⟨rfl, nf⟩)
end
end PA
namespace PA
open PySem PyProof.Rows L2
section
variable {P : Program} {w : World} {K : PySem.W.Frag} {mg : Str → Option Value} {base : Heap}
abbrev st_law_charges : Stmt := top 68
theorem sc_law_charges : FnScope ["_law_costs_here", "_law_arrows", "_law_leads", "_law_tail", "_law_head"] ["_law_costs_here", "_law_arrows", "_law_leads"] (defScope st_law_charges) := ⟨rfl, rfl, rfl, by decide +kernel, rfl, by decide +kernel, by decide +kernel⟩
theorem cal_law_charges (M : Bl mg) {C : Cs} (T : Tx K C.c C.m C.s) (D : Df K mg "_law_charges" st_law_charges ["_law_costs_here", "_law_arrows", "_law_leads"]) : Cal P w K mg base 1 "_law_charges" (sp_law_charges K) := by
  refine cal_of D sc_law_charges (fun vs H Q E h => ?_) (fun f cdv A outer s H vs Q E hr h => ?_)
  · obtain ⟨p, F, ca, aa, la, c, a, L, rfl, _⟩ := h
    rfl
  · have sc := sc_law_charges
    refine ⟨_, (pss_one
      (ps_ret (pe_callTy (call_tupK (K := K)) rfl M.b_tuple bt_tuple (pa_cons (pe_lc (own := [("_law_tail", 3), ("_law_head", 4)]) rfl sc.nd (pi_tupK (K := K) rfl (pv 1)) (blkOk_by (by kernel_rfl)) (fun _ _ _ _ _ => (pg_tupK (K := K) (n := 2) rfl rfl (pgs_cons (pg_name (i := 3) sc.nd rfl (Or.inl rfl)) (pgs_cons (pg_name (i := 4) sc.nd rfl (Or.inl rfl)) pgs_nil)))) (fun _ _ _ _ _ => pts_nil) (fun _ _ _ _ _ => (pe_op op_add (pe_op op_sub (pe_ix (ix_K (K := K)) (pv 2) (pv 4) (fun _ _ => rfl)) (pe_ix (ix_K (K := K)) (pv 2) (pv 3) (fun _ _ => rfl))) (pe_ix (ix_K (K := K)) (pv 0) (pv 3) (fun _ _ => rfl))))) pa_nil)))), ?_⟩
    obtain ⟨p, F, ca, aa, la, c, a, L, rfl, at0, hC, hca, ⟨as, ha, hp⟩, hla, hll, q⟩ := h
    have has : as.length = a.length := by rw [hp.1, prs_len]
    have hm := hC.m
    refine st_ret at0 ((ev_tupM (Pt := fun xs _ => xs = ((List.range a.length).map fun k => nth L (ar a k).2 - nth L (ar a k).1 + nth c (ar a k).1).map V.int) ((ev_lcT2 (J := fun i acc _ => acc = ((List.range i).map fun k => nth L (ar a k).2 - nth L (ar a k).1 + nth c (ar a k).1).map V.int) (ev_var rfl) ha hp (by omega) (fun _ _ => rfl) (fun _ _ => rfl) fun i pr acc F3 p' hi s3 j hl hD => LcT.all ?_).imp ?_)).imp ?_) q
    · have hil : i < a.length := by have := (List.getElem?_eq_some_iff.mp hi).1; rw [prs_len] at this; exact this
      rw [prs_get hil] at hi
      obtain rfl := Option.some.inj hi
      have he := hC.ar hil
      refine (ev_add (ev_sub (ev_ii (ev_var rfl) (ev_var rfl) (.l (s3.seq hla)) (by omega)) (ev_ii (ev_var rfl) (ev_var rfl) (.l (s3.seq hla)) (by omega))) (ev_ii (ev_var rfl) (ev_var rfl) (.t (same_t s3 hca)) he.1)).toPP fun F4 _ => ?_
      rw [j, List.range_succ, List.map_append, List.map_append]
      rfl
    · rintro v F2 s2 ⟨q2, ys, F4, ev, _, n4, ef, s4, _, ey⟩
      rw [prs_len] at ey
      exact ⟨q2, ys, ev, by rw [ef]; exact .of upd_same, ey⟩
    · rintro v F2 s2 ⟨t, xs, F3, ev, _, n3, s3, ef, ex⟩
      refine ⟨t, (List.range a.length).map fun k => nth L (ar a k).2 - nth L (ar a k).1 + nth c (ar a k).1, ev, by rw [ef, ex]; exact .of upd_same, by rw [List.length_map, List.length_range], fun k hk => ?_⟩
      have e := nth_get (xs := (List.range a.length).map fun k => nth L (ar a k).2 - nth L (ar a k).1 + nth c (ar a k).1) (i := k) (by rw [List.length_map, List.length_range]; exact hk)
      rw [List.getElem?_map, List.getElem?_range hk] at e
      exact (Option.some.inj e).symm
end
end PA
namespace PA
open PySem PyProof.Rows L2
section
variable {P : Program} {w : World} {K : PySem.W.Frag} {mg : Str → Option Value} {base : Heap}
def J_lone (p : Wd) (ca aa ga r : Addr) (c : List Int) (a : Arr) (g : List Int) (run : List Nat) (f lim : Int) : LJ := fun i σ' p' _ => ∃ v8 : Option V, p' = p ∧ σ' = [some (.ref ca), some (.ref aa), some (.int f), some (.ref ga), some (.ref r), some (.int lim), some (.int (lim - Pd f g run i)), some (.int (U c a run i)), v8] ∧ ∀ j, j ≤ i → Pd f g run j ≤ lim
abbrev st_law_one : Stmt := top 73
theorem sc_law_one : FnScope ["_law_costs_here", "_law_arrows", "_law_first", "_law_charges_here", "_law_run_here", "_law_limit", "_law_purse", "_law_used_here", "_law_step"] ["_law_costs_here", "_law_arrows", "_law_first", "_law_charges_here", "_law_run_here", "_law_limit"] (defScope st_law_one) := ⟨rfl, rfl, rfl, by decide +kernel, rfl, by decide +kernel, by decide +kernel⟩
theorem cal_law_one (M : Bl mg) {C : Cs} (T : Tx K C.c C.m C.s) (D : Df K mg "_law_one" st_law_one ["_law_costs_here", "_law_arrows", "_law_first", "_law_charges_here", "_law_run_here", "_law_limit"]) : Cal P w K mg base 1 "_law_one" (sp_law_one K) := by
  refine cal_of D sc_law_one (fun vs H Q E h => ?_) (fun f cdv A outer s H vs Q E hr h => ?_)
  · obtain ⟨p, F, ca, aa, ga, r, c, a, g, run, f, lim, rfl, _⟩ := h
    rfl
  · have sc := sc_law_one
    refine ⟨_, (pss_cons
      (ps_if (pt_cmpR op_lt (pv 5) (pv 2) (nomark _))
      (pss_one
      (ps_ret (pe_tup (pa_cons pe_int (pa_cons (pv 5) (pa_cons pe_bl pa_nil))))))
      pss_nil)
      (pss_cons
      (ps_set (i := 6) sc.nd rfl (Or.inl rfl) (pe_op op_sub (pv 5) (pv 2)))
      (pss_cons
      (ps_set (i := 7) sc.nd rfl (Or.inl rfl) (pe_ix (ix_K (K := K)) (pv 0) pe_int (fun _ _ => rfl)))
      (pss_cons
      (ps_for PassesOwn.never rfl (pi_range1 rfl M.b_range (pa_cons (pe_callB (call_lenK (K := K)) rfl M.b_len bt_len (pa_cons (pv 4) pa_nil)) pa_nil)) (pg_name (i := 8) sc.nd rfl (Or.inl rfl))
      (pss_cons
      (ps_if (pt_cmpR op_gt (pe_ix (ix_K (K := K)) (pv 3) (pe_ix (ix_K (K := K)) (pv 4) (pv 8) (fun _ _ => rfl)) (fun _ _ => rfl)) (pv 6) (nomark _))
      (pss_one
      (ps_ret (pe_tup (pa_cons (pe_op op_add (pv 8) pe_int) (pa_cons (pe_op op_sub (pv 5) (pv 7)) (pa_cons pe_bl pa_nil))))))
      pss_nil)
      (pss_cons
      (ps_set (i := 6) sc.nd rfl (Or.inl rfl) (pe_op op_sub (pv 6) (pe_ix (ix_K (K := K)) (pv 3) (pe_ix (ix_K (K := K)) (pv 4) (pv 8) (fun _ _ => rfl)) (fun _ _ => rfl))))
      (pss_one
      (ps_set (i := 7) sc.nd rfl (Or.inl rfl) (pe_op op_add (pv 7) (pe_ix (ix_K (K := K)) (pv 0) (pe_ix (ix_K (K := K)) (pe_ix (ix_K (K := K)) (pv 1) (pe_ix (ix_K (K := K)) (pv 4) (pv 8) (fun _ _ => rfl)) (fun _ _ => rfl)) pe_int (fun _ _ => rfl)) (fun _ _ => rfl))))))))
      (pss_one
      (ps_ret (pe_tup (pa_cons (pe_op op_add (pe_callB (call_lenK (K := K)) rfl M.b_len bt_len (pa_cons (pv 4) pa_nil)) pe_int) (pa_cons (pe_op op_sub (pv 5) (pv 7)) (pa_cons pe_bl pa_nil)))))))))), ?_⟩
    obtain ⟨p, F, ca, aa, ga, r, c, a, g, run, f, lim, rfl, at0, hca, haa, hga, hgl, hC, hr', hrun, hlen, q⟩ := h
    have fin : ∀ {σ : L2.St} {te : TE} {H : Hp} {F1 : Hp} {pl : Nat} {un : Int} {st : Bool}, Same F F1 → At p F1 H → EvP p te σ F1 (NewP F1 (.tup [.int (pl : Int), .int un, .bl st])) → OneR c a g f run lim pl un st → te σ H Q := fun s1 a1 he ho => he _ _ (Same.refl _) a1 _ fun v F2 H2 s2 a2 ⟨t, ev, _, ht⟩ => q v F2 H2 (s1.trans s2) a2 ⟨t, _, _, _, ev, .of ht, ho⟩
    have hml : (run.map fun (k : Nat) => V.int (k : Int)).length = run.length := by rw [List.length_map]
    refine sq (st_if at0 (et_test (ev_lt (ev_var rfl) (ev_var rfl))) (fun hb H1 a1 => ?_) (fun hb H1 a1 => ?_))
    · have hlt : lim < f := of_decide_eq_true hb
      exact fin (pl := 0) (un := lim) (st := true) (Same.refl _) a1 (ev_tup (ea_cons ev_c (ea_cons (ev_var rfl) (ea_cons ev_c ea_nil))) (show 3 ≤ 100000 by decide)) ⟨.inl ⟨hlt, rfl, rfl, rfl⟩⟩
    have hge : f ≤ lim := by have := of_decide_eq_false hb; omega
    dsimp only [tNext]
    refine sq (st_asgV a1 (ev_sub (ev_var rfl) (ev_var rfl)) fun H2 a2 => ?_)
    have hc0 : atI (c.map V.int) 0 = some (.int (nth c 0)) := at_int (m := 0) hC.n1
    refine sq (st_asgV a2 (ev_ix (ev_var rfl) ev_c (.t hca) hc0) fun H3 a3 => ?_)
    have hu0 : nth c 0 = U c a run 0 := (Int.zero_add _).symm
    rw [hu0]
    refine sq (st_forR1 (n := run.length) (J_lone p ca aa ga r c a g run f lim) a3 (ea_cons ((ev_len (ev_var rfl) (.t hr')).is (by rw [hml])) ea_nil) (by omega) ⟨none, rfl, rfl, fun j hj => by (obtain rfl : j = 0 := by omega); exact hge⟩ ?_ ?_)
    · rintro i σ' p' F4 H4 hi s4 a4 ⟨v8, rfl, rfl, hpd⟩
      have hlt := hrun.lt hi
      have ixr : ∀ {v6 v7 : Option V}, Ev p' (tOp (rIx K) (tVar 4) (tVar 8)) [some (.ref ca), some (.ref aa), some (.int f), some (.ref ga), some (.ref r), some (.int lim), v6, v7, some (.int (i : Int))] F4 (.int (rn run i : Int)) := fun {v6 v7} => ev_ix (ev_var rfl) (ev_var rfl) (.t (hr'.mono s4)) (at_get (run_get hi))
      have epd : Pd f g run (i + 1) = Pd f g run i + nth g (rn run i) := rfl
      refine sq (st_if a4 (et_test (ev_gt (ev_ii (ev_var rfl) ixr (.t (same_t s4 hga)) (by omega)) (ev_var rfl))) (fun hb H5 a5 => ?_) (fun hb H5 a5 => ?_))
      · have hgt : lim - Pd f g run i < nth g (rn run i) := of_decide_eq_true hb
        exact fin (pl := i + 1) (un := lim - U c a run i) (st := true) s4 a5 (ev_tup (ea_cons ((ev_add (ev_var rfl) ev_c).is (by rfl)) (ea_cons (ev_sub (ev_var rfl) (ev_var rfl)) (ea_cons ev_c ea_nil))) (show 3 ≤ 100000 by decide)) ⟨.inr ⟨hge, i, by omega, rfl, rfl, hpd, .inl ⟨hi, by omega, rfl⟩⟩⟩
      · have hle : ¬ lim - Pd f g run i < nth g (rn run i) := of_decide_eq_false hb
        dsimp only [tNext]
        have e4 : lim - Pd f g run i - nth g (rn run i) = lim - Pd f g run (i + 1) := by omega
        refine sq (st_asgV a5 ((ev_sub (ev_var rfl) (ev_ii (ev_var rfl) ixr (.t (same_t s4 hga)) (by omega))).is (congrArg V.int e4)) fun H6 a6 => ?_)
        have hp := plc_lt hC hrun (i := i + 1) (by omega)
        have e5 := plc_succ (a := a) hi
        rw [e5] at hp
        refine st_asgV a6 ((ev_add (ev_var rfl) (ev_ii (ev_var rfl) (ev_a1 (ev_var rfl) ixr (haa.mono s4) hlt) (.t (same_t s4 hca)) hp)).is (show V.int (U c a run i + nth c (ar a (rn run i)).2) = V.int (U c a run (i + 1)) by rw [← e5]; rfl)) fun H7 a7 => ?_
        refine ⟨_, F4, s4, a7, _, rfl, rfl, fun j hj => ?_⟩
        by_cases z : j = i + 1
        · subst z; omega
        · exact hpd j (by omega)
    · rintro σ' p' F4 H4 s4 a4 ⟨v8, rfl, rfl, hpd⟩
      exact fin (σ := [some (.ref ca), some (.ref aa), some (.int f), some (.ref ga), some (.ref r), some (.int lim), some (.int (lim - Pd f g run run.length)), some (.int (U c a run run.length)), v8]) (pl := run.length + 1) (un := lim - U c a run run.length) (st := false) s4 a4 (ev_tup (ea_cons ((ev_add (ev_len (ev_var rfl) (.t (hr'.mono s4))) ev_c).is (by rw [hml]; rfl)) (ea_cons (ev_sub (ev_var rfl) (ev_var rfl)) (ea_cons ev_c ea_nil))) (show 3 ≤ 100000 by decide)) ⟨.inr ⟨hge, run.length, Nat.le_refl _, rfl, rfl, hpd, .inr ⟨rfl, rfl⟩⟩⟩
end
end PA
namespace PA
open PySem PyProof.Rows L2
section
variable {P : Program} {w : World} {K : PySem.W.Frag} {mg : Str → Option Value} {base : Heap}
abbrev lslots (ca aa ga gt r lq : Addr) (f u pd : Int) (v9 v10 v11 v12 v13 : Option V) : L2.St := [some (.ref ca), some (.ref aa), some (.int f), some (.ref ga), some (.ref gt), some (.ref r), some (.ref lq), some (.int u), some (.int pd), v9, v10, v11, v12, v13]
def J_li (p : Wd) (ca aa ga gt r : Addr) (c : List Int) (a : Arr) (pp g : List Int) (run : List Nat) : LJ := fun i σ' p' F' => ∃ (lq : Addr) (ns : List Int) (v9 v10 v11 v12 v13 : Option V), p' = p ∧ σ' = lslots ca aa ga gt r lq (nth pp 0) (PA.T c a run i) (Pd (nth pp 0) g run (i - 1)) v9 v10 v11 v12 v13 ∧ F' lq = some (.lst (ns.map V.int)) ∧ ns.length = 1 + 4 * i ∧ (0 : Int) ∈ ns ∧ ∀ x ∈ ns, x ≤ 10000000000000
abbrev st_law_limits : Stmt := top 74
theorem sc_law_limits : FnScope ["_law_costs_here", "_law_arrows", "_law_first", "_law_charges_here", "_law_gates", "_law_run_here", "_law_limits_here", "_law_used_here", "_law_paid", "_law_step", "_law_place", "_law_gate", "_law_limit", "_law_mark"] ["_law_costs_here", "_law_arrows", "_law_first", "_law_charges_here", "_law_gates", "_law_run_here"] (defScope st_law_limits) := ⟨rfl, rfl, rfl, by decide +kernel, rfl, by decide +kernel, by decide +kernel⟩
theorem cal_law_limits (M : Bl mg) {C : Cs} (T : Tx K C.c C.m C.s) (D : Df K mg "_law_limits" st_law_limits ["_law_costs_here", "_law_arrows", "_law_first", "_law_charges_here", "_law_gates", "_law_run_here"]) : Cal P w K mg base 1 "_law_limits" (sp_law_limits K) := by
  refine cal_of D sc_law_limits (fun vs H Q E h => ?_) (fun f cdv A outer s H vs Q E hr h => ?_)
  · obtain ⟨p, F, ca, aa, ga, gt, r, c, a, pp, g, run, rfl, _⟩ := h
    rfl
  · have sc := sc_law_limits
    refine ⟨_, (pss_cons
      (ps_set (i := 6) sc.nd rfl (Or.inl rfl) (pe_lst (pa_cons pe_int pa_nil)))
      (pss_cons
      (ps_set (i := 7) sc.nd rfl (Or.inl rfl) pe_int)
      (pss_cons
      (ps_set (i := 8) sc.nd rfl (Or.inl rfl) (pv 2))
      (pss_cons
      (ps_for PassesOwn.never rfl (pi_range1 rfl M.b_range (pa_cons (pe_op op_add (pe_callB (call_lenK (K := K)) rfl M.b_len bt_len (pa_cons (pv 5) pa_nil)) pe_int) pa_nil)) (pg_name (i := 9) sc.nd rfl (Or.inl rfl))
      (pss_cons
      (ps_set (i := 10) sc.nd rfl (Or.inl rfl) (pe_ifExp (pt_truK (K := K) rfl (pv 9)) (pe_ix (ix_K (K := K)) (pe_ix (ix_K (K := K)) (pv 1) (pe_ix (ix_K (K := K)) (pv 5) (pe_op op_sub (pv 9) pe_int) (fun _ _ => rfl)) (fun _ _ => rfl)) pe_int (fun _ _ => rfl)) pe_int))
      (pss_cons
      (ps_if (pt_truK (K := K) rfl (pv 9))
      (pss_one
      (ps_set (i := 8) sc.nd rfl (Or.inl rfl) (pe_op op_add (pv 8) (pe_ix (ix_K (K := K)) (pv 3) (pe_ix (ix_K (K := K)) (pv 5) (pe_op op_sub (pv 9) pe_int) (fun _ _ => rfl)) (fun _ _ => rfl)))))
      pss_nil)
      (pss_cons
      (ps_set (i := 11) sc.nd rfl (Or.inl rfl) (pe_ifExp (pt_truK (K := K) rfl (pv 4)) (pe_lst (pa_cons (pe_op op_add (pv 7) (pe_ix (ix_K (K := K)) (pv 4) (pv 10) (fun _ _ => rfl))) pa_nil)) (pe_lst pa_nil)))
      (pss_cons
      (ps_set (i := 7) sc.nd rfl (Or.inl rfl) (pe_op op_add (pv 7) (pe_ix (ix_K (K := K)) (pv 0) (pv 10) (fun _ _ => rfl))))
      (pss_one
      (ps_set (i := 6) sc.nd rfl (Or.inl rfl) (pe_op op_cat (pe_op op_cat (pe_op op_cat (pv 6) (pe_lst (pa_cons (pv 7) (pa_cons (pe_op op_sub (pv 7) pe_int) (pa_cons (pv 8) (pa_cons (pe_op op_sub (pv 8) pe_int) pa_nil)))))) (pv 11)) (pe_lc (own := [("_law_mark", 13)]) rfl sc.nd (pi_listK (K := K) rfl (pv 11)) (blkOk_by (by kernel_rfl)) (fun _ _ _ _ _ => (pg_name (i := 13) sc.nd rfl (Or.inl rfl))) (fun _ _ _ _ _ => pts_nil) (fun _ _ _ _ _ => (pe_op op_sub (pv 13) pe_int)))))))))))
      (pss_one
      (ps_ret (pe_lc (own := [("_law_limit", 12)]) rfl sc.nd (pi_listK (K := K) rfl (pe_callB (cr_sortedSet rfl) rfl M.b_sorted bt_sorted (pa_cons (pe_callTy (cr_setL1 rfl) rfl M.b_set bt_set (pa_cons (pv 6) pa_nil)) pa_nil))) (blkOk_by (by kernel_rfl)) (fun _ _ _ _ _ => (pg_name (i := 12) sc.nd rfl (Or.inl rfl))) (fun _ _ _ _ _ => (pts_one (pt_cmpR op_ge (pv 12) pe_int (nomark _)))) (fun _ _ _ _ _ => (pv 12))))))))), ?_⟩
    obtain ⟨p, F, ca, aa, ga, gt, r, c, a, pp, g, run, rfl, at0, hca, haa, hga, hgt, hC, hM, hr', hrun, hlen, q⟩ := h
    have hml : (run.map fun (k : Nat) => V.int (k : Int)).length = run.length := by rw [List.length_map]
    have h0 := (hM.p0 0 hC.n1)
    refine sq (st_asg at0 (ev_lst (ea_cons ev_c ea_nil) (show 1 ≤ 100000 by decide)) fun v F1 H1 s1 a1 ⟨l0, ev, _, hl0⟩ => ?_)
    subst ev
    refine sq (st_asgV a1 ev_c fun H2 a2 => ?_)
    refine sq (st_asgV a2 (ev_var rfl) fun H3 a3 => ?_)
    refine sq (st_forR1 (n := run.length + 1) (J_li p ca aa ga gt r c a pp g run) a3 (ea_cons ((ev_add (ev_len (ev_var rfl) (.t (hr'.mono s1))) ev_c).is (by rw [hml]; rfl)) ea_nil) (by omega) ⟨l0, [0], none, none, none, none, none, rfl, rfl, hl0, rfl, List.mem_singleton.mpr rfl, fun x hx => by rw [List.mem_singleton.mp hx]; decide⟩ ?_ ?_)
    · rintro i σ' p' F2 H4 hi s2 a4 ⟨lq, ns, v9, v10, v11, v12, v13, rfl, rfl, hlq, hnl, hz, hns⟩
      have s12 := s1.trans s2
      have ixr : ∀ {j : Nat} {v6 v7 v8 v10 v11 v12 v13 : Option V}, i = j + 1 → Ev p' (tOp (rIx K) (tVar 5) (tOp (rI0 fun i j => .int (i - j)) (tVar 9) (tC (.int 1)))) [some (.ref ca), some (.ref aa), some (.int (nth pp 0)), some (.ref ga), some (.ref gt), some (.ref r), v6, v7, v8, some (.int (i : Int)), v10, v11, v12, v13] F2 (.int (rn run j : Int)) := fun {j v6 v7 v8 v10 v11 v12 v13} e => ev_ix (ev_var rfl) ((ev_sub (ev_var rfl) ev_c).is (congrArg V.int (show (i : Int) - 1 = (j : Int) by omega))) (.t (hr'.mono s12)) (at_get (run_get (by omega)))
      -- the place
      refine sq (st_asg (P := fun v _ => v = .int (plc a run i : Int)) a4 (ev_ifT (et_int (ev_var rfl)) (fun hb => ?_) (fun hb => ?_)) fun v F3 H5 s3 a5 ev => ?_)
      · have hne : ¬ (i : Int) = 0 := by simpa using hb
        obtain ⟨j, rfl⟩ : ∃ j, i = j + 1 := ⟨i - 1, by omega⟩
        rw [plc_succ (by omega)]
        exact Ev.toP (ev_a1 (ev_var rfl) (ixr rfl) (haa.mono s12) (hrun.lt (by omega)))
      · have he : (i : Int) = 0 := by simpa using hb
        obtain rfl : i = 0 := by omega
        exact Ev.toP ev_c
      subst ev
      have s13 := s12.trans s3
      have hca3 := same_t s13 hca
      dsimp only
      refine st_sq2 (fun σ H => ∃ F4, Same F3 F4 ∧ At p' F4 H ∧ σ = lslots ca aa ga gt r lq (nth pp 0) (PA.T c a run i) (Pd (nth pp 0) g run i) (some (.int (i : Int))) (some (.int (plc a run i : Int))) v11 v12 v13) ?_ fun tail => ?_
      · rintro σ H6 ⟨F4, s4, a6, rfl⟩
        have s14 := s13.trans s4
        refine sq (st_asg (P := fun v F5 => ∃ l, v = .ref l ∧ F5 l = some (.lst [])) a6 (ev_ifT (b := false) ((et_seq (xs := []) (ev_var rfl) (.l (s14.seq hgt))).is rfl) (fun z => absurd z (by decide)) fun _ => (ev_lst ea_nil (show 0 ≤ 100000 by decide)).imp fun v F5 _ ⟨l, ev, _, e⟩ => ⟨l, ev, e⟩) fun v F5 H7 s5 a7 ⟨l, ev, hl⟩ => ?_)
        subst ev
        have hp := plc_lt hC hrun (i := i) (by omega)
        refine sq (st_asgV a7 (ev_add (ev_var rfl) (ev_ii (ev_var rfl) (ev_var rfl) (.t (same_t (s4.trans s5) hca3)) hp)) fun H8 a8 => ?_)
        have hlq5 := (s3.trans (s4.trans s5)) _ _ hlq
        have eT : PA.T c a run i + nth c (plc a run i) = PA.T c a run (i + 1) := rfl
        rw [eT]
        have bT := T_hi hC hrun (i := i + 1) (by omega)
        have bP := Pd_hi hM hrun (f := nth pp 0) h0.2 (i := i) (by omega)
        refine st_asg (P := fun v F6 => ∃ q, v = .ref q ∧ F6 q = some (.lst ((ns ++ [PA.T c a run (i + 1), PA.T c a run (i + 1) - 1, Pd (nth pp 0) g run i, Pd (nth pp 0) g run i - 1]).map V.int))) a8 ((ev_cat (xs := (ns ++ [PA.T c a run (i + 1), PA.T c a run (i + 1) - 1, Pd (nth pp 0) g run i, Pd (nth pp 0) g run i - 1]).map V.int) (ys := []) ((ev_cat (xs := (ns ++ [PA.T c a run (i + 1), PA.T c a run (i + 1) - 1, Pd (nth pp 0) g run i, Pd (nth pp 0) g run i - 1]).map V.int) (ys := []) ((ev_cat (xs := ns.map V.int) ((ev_var rfl).toPP fun F6 s6 => ⟨lq, rfl, s6 _ _ hlq5⟩) (fun F6 s6 => (ev_lst (ea_cons (ev_var rfl) (ea_cons (ev_sub (ev_var rfl) ev_c) (ea_cons (ev_var rfl) (ea_cons (ev_sub (ev_var rfl) ev_c) ea_nil)))) (show 4 ≤ 100000 by decide)).imp fun v F7 _ ⟨l, ev, _, e⟩ => ⟨l, ev, e⟩) (by rw [List.length_map]; show ns.length + 4 ≤ 100000; omega)).imp fun v F6 _ ⟨l, ev, _, e⟩ => ⟨l, ev, by rw [e, List.map_append]; rfl⟩) (fun F6 s6 => (ev_var rfl).toPP fun F7 s7 => ⟨l, rfl, (s6.trans s7) _ _ hl⟩) (by rw [List.length_map, List.length_append]; show ns.length + 4 + 0 ≤ 100000; omega)).imp fun v F6 _ ⟨l, ev, _, e⟩ => ⟨l, ev, by rw [e, List.append_nil]⟩) (fun F6 s6 => (ev_lcL (xs := []) (J := fun _ _ _ => True) (ev_var rfl) (.of (s6 _ _ hl)) (by decide) (fun _ => rfl) (fun _ _ => True.intro) fun i x acc F7 p' hi s7 j hl hD => by cases hi).imp fun v F7 _ ⟨l, xs, F8, ev, _, _, ef, _, hx, _⟩ => ⟨l, ev, by rw [ef, upd_same, List.eq_nil_of_length_eq_zero (Nat.le_zero.mp hx)]⟩) (by rw [List.length_map, List.length_append]; show ns.length + 4 + 0 ≤ 100000; omega)).imp fun v F6 _ ⟨l, ev, _, e⟩ => ⟨l, ev, by rw [e, List.append_nil]⟩) fun v F6 H9 s6 a9 ⟨nq, ev, hnq⟩ => ?_
        subst ev
        refine ⟨_, F6, s2.trans (s3.trans (s4.trans (s5.trans s6))), a9, nq, _, _, _, _, _, _, rfl, by rw [Nat.add_sub_cancel]; rfl, hnq, by rw [List.length_append, hnl]; show 1 + 4 * i + 4 = _; omega, List.mem_append_left _ hz, fun x hx => ?_⟩
        rcases List.mem_append.mp hx with z | z
        · exact hns x z
        · simp at z
          rcases z with z | z | z | z <;> omega
      · refine st_if a5 (et_int (ev_var rfl)) (fun hb H6 a6 => ?_) (fun hb H6 a6 => ?_)
        · have hne : ¬ (i : Int) = 0 := by simpa using hb
          obtain ⟨j, rfl⟩ : ∃ j, i = j + 1 := ⟨i - 1, by omega⟩
          refine st_asgV a6 (ev_add (ev_var rfl) (ev_ii (ev_var rfl) ((ixr rfl).mono s3) (.t (same_t s13 hga)) (by rw [hM.gl]; exact hrun.lt (by omega)))) fun H7 a7 => ?_
          exact tail _ _ ⟨F3, Same.refl _, a7, rfl⟩
        · have he : (i : Int) = 0 := by simpa using hb
          obtain rfl : i = 0 := by omega
          exact tail _ _ ⟨F3, Same.refl _, a6, rfl⟩
    · rintro σ' p' F2 H4 s2 a4 ⟨lq, ns, v9, v10, v11, v12, v13, rfl, rfl, hlq, hnl, hz, hns⟩
      refine st_ret a4 ((ev_lcLP (Pt := fun xs _ => ∃ ms : List Int, xs = ms.map V.int ∧ (∀ k, k ∈ ms ↔ k ∈ ns) ∧ ms.length ≤ 50) (J := fun xs i acc _ => ∃ ys : List Int, acc = ys.map V.int ∧ (∀ y ∈ ys, 0 ≤ y ∧ y ≤ 10000000000000) ∧ (V.int 0 ∈ xs.take i → ys ≠ [])) (ev_cbP (eap_one (ev_cb (P := fun v F3 => ∃ s n, v = .ref s ∧ F3 s = some (SetO w s (fun j => decide (j ∈ ns)) n) ∧ n ≤ 50) (ea_cons (ev_var rfl) ea_nil) fun F3 H5 s3 a5 Q' k => ⟨lq, ns, rfl, a5.l (.of (s3 _ _ hlq)), by omega, fun s n hs hn => k _ _ _ (same_new (a5.free hs)) (a5.new hs) ⟨s, n, rfl, upd_same, by omega⟩⟩)) fun vs F3 H5 s3 ⟨x, ev, s, n, ex, hs, hn⟩ a5 Q' k => ?_) (fun _ => rfl) (fun xs F3 s3 _ => ⟨[], rfl, fun y hy => (by cases hy), fun z => (by cases z)⟩) fun xs F3 i y acc F4 p2 s3 ⟨ms, ex, hms, hml2⟩ hi s4 ⟨ys, e1, e2, e3⟩ hl hD => ?_).imp ?_) fun v F3 H5 s3 a5 h => q v F3 H5 (s1.trans (s2.trans s3)) a5 h
      rotate_right
      · subst ev ex
        exact ⟨s, _, n, rfl, a5.get hs, by omega, fun ms l _ hk hl2 hf => k _ _ _ (same_new (a5.free hf)) (a5.new hf) ⟨l, _, rfl, .of upd_same, by rw [List.length_map]; omega, ms, rfl, fun k => (hk k).trans (by simp), by omega⟩⟩
      · subst ex
        have hil : i < ms.length := by have := (List.getElem?_eq_some_iff.mp hi).1; rw [List.length_map] at this; exact this
        have hi2 := hi
        rw [List.getElem?_map, nth_get hil] at hi
        obtain rfl := Option.some.inj hi
        have hb := hns _ ((hms _).mp (nth_mem hil))
        refine ⟨_, EvT.toP (et_test (ev_ge (ev_var rfl) ev_c)), fun e => (ev_var rfl).toPP fun F5 _ => ⟨ys ++ [nth ms i], by rw [e1, List.map_append]; rfl, fun y hy => ?_, fun _ => by simp⟩, fun e => ⟨ys, e1, e2, fun z => e3 ?_⟩⟩
        · rcases List.mem_append.mp hy with z | z
          · exact e2 y z
          · rw [List.mem_singleton.mp z]
            exact ⟨of_decide_eq_true e.symm, hb⟩
        · rw [List.take_add_one, hi2] at z
          rcases List.mem_append.mp z with z | z
          · exact z
          · have z2 : V.int 0 = V.int (nth ms i) := by simpa using z
            have := V.int.inj z2
            have := of_decide_eq_false e.symm
            omega
      · rintro v F3 s3 ⟨xs, F4, s4, ⟨ms, ex, hms, hml2⟩, q2, zs, F5, ev, _, n5, ef, s5, hzl, ys, e1, e2, e3⟩
        subst ex
        refine ⟨q2, ys, ev, by rw [ef, e1]; exact upd_same, e3 ?_, ?_, e2⟩
        · rw [List.take_length]
          exact List.mem_map.mpr ⟨0, (hms 0).mpr hz, rfl⟩
        · rw [e1, List.length_map, List.length_map] at hzl
          omega
end
end PA
namespace PA
open PySem PyProof.Rows L2
section
variable {P : Program} {w : World} {K : PySem.W.Frag} {mg : Str → Option Value} {base : Heap}
abbrev st_law_whole : Stmt := top 76
theorem sc_law_whole : FnScope ["_law_thing", "_law_low", "_law_high"] ["_law_thing", "_law_low", "_law_high"] (defScope st_law_whole) := ⟨rfl, rfl, rfl, by decide +kernel, rfl, by decide +kernel, by decide +kernel⟩
theorem cal_law_whole (M : Bl mg) {C : Cs} (T : Tx K C.c C.m C.s) (D : Df K mg "_law_whole" st_law_whole ["_law_thing", "_law_low", "_law_high"]) : Cal P w K mg base 1 "_law_whole" sp_is_whole := by
  refine cal_of D sc_law_whole (fun vs H Q E h => ?_) (fun f cdv A outer s H vs Q E hr h => ?_)
  · obtain ⟨p, F, i, lo, hi, rfl, _⟩ := h
    rfl
  · have sc := sc_law_whole
    refine ⟨_, (pss_one
      (ps_ret (pe_and (pe_callB (isi_K (K := K)) rfl M.b_isinstance bt_isinstance (pa_cons (pv 0) (pa_cons (pe_bltn (v := .ty "int") rfl M.b_int bt_int rfl) pa_nil))) (pe_and (pe_not (pe_callB (isi_K (K := K)) rfl M.b_isinstance bt_isinstance (pa_cons (pv 0) (pa_cons (pe_bltn (v := .ty "bool") rfl M.b_bool bt_bool rfl) pa_nil)))) (pe_one (pe_chain op_le op_le (pv 1) (pv 0) (pv 2))))))), ?_⟩
    obtain ⟨p, F, i, lo, hi, rfl, at0, k⟩ := h
    exact st_retV at0 (ev_andV (ev_isInt (ev_var rfl)) fun _ => ev_andV (ev_notV (ev_isBool (ev_var rfl))) fun _ => ev_chain (ev_var rfl) (ev_var rfl) (fun _ => ev_var rfl) (fun _ _ _ _ _ q => ⟨_, _, rfl, rfl, q⟩) (fun _ _ _ _ _ _ q => ⟨_, _, rfl, rfl, q⟩)) k
end
end PA
namespace PA
open PySem PyProof.Rows L2
section
variable {P : Program} {w : World} {K : PySem.W.Frag} {mg : Str → Option Value} {base : Heap}
theorem log_lt {n : Int} (h1 : 1 ≤ n) (h2 : n ≤ 10000000000000000) : n.natAbs.log2 < 9000 := by
  have : n.natAbs < 2 ^ 60 := Nat.lt_of_le_of_lt (show n.natAbs ≤ 10000000000000000 by omega) (by decide)
  have := (Nat.log2_lt (show n.natAbs ≠ 0 by omega)).mpr this
  omega
theorem ev_div_w {p : Wd} {F : Hp} {σ : L2.St} {ta tb : TE} {i j : Int} (ha : Ev p ta σ F (.int i)) (hb : Ev p tb σ F (.int j)) (hc : CDivW i j) : Ev p (tOp (rI CDivW fun i j => .int (i / j)) ta tb) σ F (.int (i / j)) := ev_I ha hb hc
abbrev st_law_take : Stmt := top 58
theorem sc_law_take : FnScope ["_law_hand_here", "_law_many", "_law_cell", "_law_rest"] ["_law_hand_here", "_law_many"] (defScope st_law_take) := ⟨rfl, rfl, rfl, by decide +kernel, rfl, by decide +kernel, by decide +kernel⟩
theorem cal_law_take (M : Bl mg) {C : Cs} (T : Tx K C.c C.m C.s) (c_law_mixed : Cal P w K mg base 1 "_law_mixed" sp_law_mixed) (D : Df K mg "_law_take" st_law_take ["_law_hand_here", "_law_many"]) : Cal P w K mg base 2 "_law_take" (sp_law_take K) := by
  refine cal_of D sc_law_take (fun vs H Q E h => ?_) (fun f cdv A outer s H vs Q E hr h => ?_)
  · obtain ⟨p, F, hh, many, rfl, _⟩ := h
    rfl
  · have sc := sc_law_take
    refine ⟨_, (pss_cons
      (ps_if (PW.pt (pw_and (pt_cmpR op_eq (pe_ix (ix_K (K := K)) (pv 0) pe_int (fun _ _ => rfl)) pe_int (nomark _)) (pw_and1 (pt_cmpR op_lt (pe_ix (ix_K (K := K)) (pv 0) pe_int (fun _ _ => rfl)) (pe_callB (call_lenK (K := K)) rfl M.b_len bt_len (pa_cons (pe_ix (ix_K (K := K)) (pv 0) pe_int (fun _ _ => rfl)) pa_nil)) (nomark _)))))
      (pss_cons
      (ps_set (i := 2) sc.nd rfl (Or.inl rfl) (pe_ix (ix_K (K := K)) (pe_ix (ix_K (K := K)) (pv 0) pe_int (fun _ _ => rfl)) (pe_ix (ix_K (K := K)) (pv 0) pe_int (fun _ _ => rfl)) (fun _ _ => rfl)))
      (pss_cons
      (ps_asg (pe_op op_add (pe_ix (ix_K (K := K)) (pv 0) pe_int (fun _ _ => rfl)) pe_int) (pg_sub (pv 0) pe_int set_list))
      (pss_cons
      (ps_if (pt_cmpR op_lt (pv 2) (pe_op op_pow pe_int pe_int) (nomark _))
      (pss_one
      (ps_ret (pe_op op_mod (pe_callTy call_intK rfl M.b_int bt_int (pa_cons (pe_c c_law_mixed hr (by decide) rfl (pa_cons (pe_op op_mod (pe_callTy call_intK rfl M.b_int bt_int (pa_cons (pv 2) pa_nil)) pe_int) (pa_cons (pe_ix (ix_K (K := K)) (pv 0) pe_int (fun _ _ => rfl)) pa_nil))) pa_nil)) (pv 1))))
      pss_nil)
      (pss_one
      (ps_asg (pv 2) (pg_sub (pv 0) pe_int set_list))))))
      pss_nil)
      (pss_cons
      (ps_if (pt_cmpR op_gt (pe_ix (ix_K (K := K)) (pv 0) pe_int (fun _ _ => rfl)) pe_int (nomark _))
      (pss_cons
      (ps_set (i := 3) sc.nd rfl (Or.inl rfl) (pe_ix (ix_K (K := K)) (pv 0) pe_int (fun _ _ => rfl)))
      (pss_cons
      (ps_asg (pe_op op_fdivW (pe_callTy call_intK rfl M.b_int bt_int (pa_cons (pv 3) pa_nil)) (pv 1)) (pg_sub (pv 0) pe_int set_list))
      (pss_one
      (ps_ret (pe_op op_mod (pe_callTy call_intK rfl M.b_int bt_int (pa_cons (pv 3) pa_nil)) (pv 1))))))
      pss_nil)
      (pss_cons
      (ps_asg (pe_op op_mod (pe_callTy call_intK rfl M.b_int bt_int (pa_cons (pe_op op_add (pe_ix (ix_K (K := K)) (pv 0) pe_int (fun _ _ => rfl)) pe_int) pa_nil)) pe_int) (pg_sub (pv 0) pe_int set_list))
      (pss_one
      (ps_ret (pe_op op_mod (pe_callTy call_intK rfl M.b_int bt_int (pa_cons (pe_c c_law_mixed hr (by decide) rfl (pa_cons (pe_ix (ix_K (K := K)) (pv 0) pe_int (fun _ _ => rfl)) (pa_cons (pe_ix (ix_K (K := K)) (pv 0) pe_int (fun _ _ => rfl)) pa_nil))) pa_nil)) (pv 1))))))), ?_⟩
    obtain ⟨p, F, hh, many, rfl, at0, ⟨c, cells, hc, hcl, hlen, h0⟩, m1, m2, q⟩ := h
    have md : ∀ x : Int, 0 ≤ x % many ∧ x % many < many := fun x => ⟨Int.emod_nonneg _ (by omega), Int.emod_lt_of_pos _ (by omega)⟩
    have dv : ∀ x : Int, 0 ≤ x → 0 ≤ x / many := fun x hx => Int.ediv_nonneg hx (by omega)
    have mixed : ∀ {p1 : Wd} {F1 : Hp} {σ : L2.St} {t : TA} {x y : Int} {E' : XK}, EvA p1 t σ F1 [.int x, .int y] → EvP p1 (tCall sp_law_mixed [] E' t) σ F1 (fun v _ => ∃ i : Int, v = .int i ∧ True) :=
      fun ha => ev_call ha fun F2 H2 s2 a2 Q2 k => ⟨_, F2, _, _, rfl, a2, fun v H' a' => k _ F2 H' (Same.refl _) a' ⟨v, rfl, True.intro⟩⟩
    have mixm : ∀ {p1 : Wd} {F1 : Hp} {v2 v3 : Option V} {t : TA} {x y : Int} {E' : XK}, EvA p1 t [some (.ref hh), some (.int many), v2, v3] F1 [.int x, .int y] → EvP p1 (tOp (rI (fun _ j => 0 < j) fun i j => .int (i % j)) (tCB rIntB (tCons (tCall sp_law_mixed [] E' t) tNil)) (tVar 1)) [some (.ref hh), some (.int many), v2, v3] F1 (fun v _ => ∃ i : Int, v = .int (i % many)) :=
      fun ha => ev_opP (ev_intP (mixed ha)) (Pb := fun _ y _ => y = .int many) (fun x F2 s _ => Ev.toP (ev_var rfl)) fun x y F2 F3 H s1 ⟨i, ex, _⟩ s2 ey a2 Q k => ⟨i, many, ex, ey, by omega, k _ F3 H (Same.refl _) a2 ⟨i, rfl⟩⟩
    refine st_sq2 (fun σ H => ∃ (v2 : Option V) (F1 : Hp) (i r t : Int), σ = [some (.ref hh), some (.int many), v2, none] ∧ (0 ≤ i ∧ 0 ≤ r ∧ 0 ≤ t) ∧ Same F F1 ∧ At (.own (rep p) hh (hnd c i r t)) F1 H) ?_ fun tail => ?_
    · rintro σ H1 ⟨v2, F1, i, r, t, rfl, z, s1, a1⟩
      refine sq (st_if a1 (et_test (ev_gt (ev_ix (v := .int r) (ev_var rfl) ev_c .own rfl) ev_c)) (fun hb H2 a2 => ?_) (fun hb H2 a2 => ?_))
      · refine sq (st_asgV a2 (ev_ix (v := .int r) (ev_var rfl) ev_c .own rfl) fun H3 a3 => ?_)
        refine sq (st_set (m := 2) a3 (Ev.toP (ev_div_w (ev_int (ev_var rfl)) (ev_var rfl) ⟨by omega, log_lt m1 m2⟩)) (ev_var rfl) ev_c (show 2 < 4 by decide) fun v F4 H4 s4 a4 ev => ?_)
        subst ev
        have a5 : At (.own (rep p) hh (hnd c i (r / many) t)) F4 H4 := a4
        refine st_retV a5 (ev_mod (ev_int (ev_var rfl)) (ev_var rfl) (by omega)) fun H6 a6 => ?_
        exact q _ (md r).1 (md r).2 _ ((a6.back hc ⟨z.1, dv r z.2.1, z.2.2⟩).less (s1.trans s4))
      · dsimp only [tNext]
        refine sq (st_set (m := 3) a2 (Ev.toP (ev_mod (ev_int (ev_add (ev_ix (v := .int t) (ev_var rfl) ev_c .own rfl) ev_c)) ev_c (by decide))) (ev_var rfl) ev_c (show 3 < 4 by decide) fun v F4 H4 s4 a4 ev => ?_)
        subst ev
        have a5 : At (.own (rep p) hh (hnd c i r ((t + 1) % 2147483549))) F4 H4 := a4
        refine st_ret a5 (mixm (ea_cons (ev_ix (v := .int ((t + 1) % 2147483549)) (ev_var rfl) ev_c .own rfl) (ea_cons (ev_ix (v := .int i) (ev_var rfl) ev_c .own rfl) ea_nil))) fun v F6 H6 s6 a6 ⟨x, ev⟩ => ?_
        subst ev
        exact q _ (md x).1 (md x).2 _ ((a6.back hc ⟨z.1, z.2.1, by omega⟩).less (s1.trans (s4.trans s6)))
    · obtain ⟨i', r, t, z, a1⟩ := at0.hand hc
      obtain ⟨i, rfl⟩ := Int.eq_ofNat_of_zero_le z.1
      refine st_if a1 (et_and (et_test (ev_eq (ev_ix (v := .int r) (ev_var rfl) ev_c .own rfl) ev_c rfl)) fun _ => et_test (ev_lt (ev_ix (v := .int (i : Int)) (ev_var rfl) ev_c .own rfl) (ev_len (ev_ix (v := .ref c) (ev_var rfl) ev_c .own rfl) (.l hcl)))) (fun hb H2 a2 => ?_) (fun hb H2 a2 => tail _ _ ⟨none, F, _, _, _, rfl, z, Same.refl _, a2⟩)
      have hil : i < cells.length := by
        have := (Bool.and_eq_true_iff.mp hb).2
        have := of_decide_eq_true this
        rw [List.length_map] at this
        omega
      have hx := h0 _ (nth_mem hil)
      refine sq (st_asgV a2 (ev_ix (ev_ix (v := .ref c) (ev_var rfl) ev_c .own rfl) (ev_ix (v := .int (i : Int)) (ev_var rfl) ev_c .own rfl) (.l hcl) (at_int hil)) fun H3 a3 => ?_)
      refine sq (st_set (m := 1) a3 (Ev.toP (ev_add (ev_ix (v := .int (i : Int)) (ev_var rfl) ev_c .own rfl) ev_c)) (ev_var rfl) ev_c (show 1 < 4 by decide) fun v F4 H4 s4 a4 ev => ?_)
      subst ev
      have a5 : At (.own (rep p) hh (hnd c ((i : Int) + 1) r t)) F4 H4 := a4
      refine sq (st_if a5 (et_test (ev_lt (ev_var rfl) (ev_pow ev_c ev_c ⟨by decide, by decide, by decide⟩))) (fun hb H5 a6 => ?_) (fun hb H5 a6 => ?_))
      · refine st_ret a6 (mixm (ea_cons (ev_mod (ev_int (ev_var rfl)) ev_c (by decide)) (ea_cons (ev_ix (v := .int ((i : Int) + 1)) (ev_var rfl) ev_c .own rfl) ea_nil))) fun v F6 H6 s6 a6 ⟨x, ev⟩ => ?_
        subst ev
        exact q _ (md x).1 (md x).2 _ ((a6.back hc ⟨by omega, z.2.1, z.2.2⟩).less (s4.trans s6))
      · dsimp only [tNext]
        refine st_set (m := 2) a6 (Ev.toP (ev_var rfl)) (ev_var rfl) ev_c (show 2 < 4 by decide) fun v F6 H6 s6 a7 ev => ?_
        subst ev
        exact tail _ _ ⟨_, F6, (i : Int) + 1, nth cells i, t, rfl, ⟨by omega, hx, z.2.2⟩, s4.trans s6, a7⟩
end
end PA
namespace PA
open PySem PyProof.Rows L2
section
variable {P : Program} {w : World} {K : PySem.W.Frag} {mg : Str → Option Value} {base : Heap}
theorem sum_T {c : List Int} {a : Arr} {run : List Nat} : ∀ n : Nat, ((List.range n).map fun i => nth c (plc a run i)).sum = T c a run n
  | 0 => rfl
  | n + 1 => by
    rw [List.range_succ, List.map_append, List.sum_append, sum_T n]
    show T c a run n + (nth c (plc a run n) + 0) = _
    rw [Int.add_zero]
    rfl
abbrev st_law_used : Stmt := top 65
theorem sc_law_used : FnScope ["_law_costs_here", "_law_arrows", "_law_run_here", "_law_place"] ["_law_costs_here", "_law_arrows", "_law_run_here"] (defScope st_law_used) := ⟨rfl, rfl, rfl, by decide +kernel, rfl, by decide +kernel, by decide +kernel⟩
theorem cal_law_used (M : Bl mg) {C : Cs} (T : Tx K C.c C.m C.s) (c_law_places : Cal P w K mg base 1 "_law_places" (sp_law_places K)) (D : Df K mg "_law_used" st_law_used ["_law_costs_here", "_law_arrows", "_law_run_here"]) : Cal P w K mg base 2 "_law_used" (sp_law_used K) := by
  refine cal_of D sc_law_used (fun vs H Q E h => ?_) (fun f cdv A outer s H vs Q E hr h => ?_)
  · obtain ⟨p, F, ca, aa, r, c, a, run, rfl, _⟩ := h
    rfl
  · have sc := sc_law_used
    refine ⟨_, (pss_one
      (ps_ret (pe_callB (cr_sumK (K := K) rfl rfl) rfl M.b_sum bt_sum (pa_cons (pe_lc (own := [("_law_place", 3)]) rfl sc.nd (pi_listK (K := K) rfl (pe_c c_law_places hr (by decide) rfl (pa_cons (pv 1) (pa_cons (pv 2) pa_nil)))) (blkOk_by (by kernel_rfl)) (fun _ _ _ _ _ => (pg_name (i := 3) sc.nd rfl (Or.inl rfl))) (fun _ _ _ _ _ => pts_nil) (fun _ _ _ _ _ => (pe_ix (ix_K (K := K)) (pv 0) (pv 3) (fun _ _ => rfl)))) pa_nil)))), ?_⟩
    obtain ⟨p, F, ca, aa, r, c, a, run, rfl, at0, hca, haa, hC, hr', hrun, hlen, q⟩ := h
    have hpl : (plV a run).length = run.length + 1 := by unfold plV; rw [List.length_map, List.length_range]
    refine st_retV at0 (EvP.toV (ev_cbP (eap_one ((ev_lcLP (Pt := fun xs _ => xs = plV a run) (J := fun _ i acc _ => acc = ((List.range i).map fun j => nth c (plc a run j)).map V.int) (ev_call (ea_cons (ev_var rfl) (ea_cons (ev_var rfl) ea_nil)) fun F2 H s2 a2 Q k => ⟨p, F2, aa, r, a, run, rfl, a2, haa.mono s2, hr'.mono s2, hrun, hlen, fun v F3 H3 s3 a3 ⟨l, ev, _, hl⟩ => k v F3 H3 s3 a3 ⟨l, _, ev, .of hl, by rw [hpl]; omega, rfl⟩⟩) (fun _ => rfl) (fun _ _ _ _ => rfl) fun xs F2 i y acc F3 p' s2 ex hi s3 j hl hD => LcT.all ?_).imp (P' := fun v F2 => ∃ q2, v = .ref q2 ∧ F2 q2 = some (.lst (((List.range (run.length + 1)).map fun j => nth c (plc a run j)).map V.int))) ?_)) ?_)) q
    · subst ex
      have hil : i < run.length + 1 := by have := (List.getElem?_eq_some_iff.mp hi).1; rw [hpl] at this; exact this
      unfold plV at hi
      rw [List.getElem?_map, List.getElem?_range hil] at hi
      obtain rfl := Option.some.inj hi
      refine (ev_ii (ev_var rfl) (ev_var rfl) (.t (same_t (s2.trans s3) hca)) (plc_lt hC hrun (i := i) (by omega))).toPP fun F4 _ => ?_
      rw [j, List.range_succ, List.map_append, List.map_append]
      rfl
    · rintro v F2 s2 ⟨xs, F3, s3, rfl, q2, ys, F4, ev, _, n4, ef, s4, _, ey⟩
      rw [hpl] at ey
      exact ⟨q2, ev, by rw [ef, ey]; exact upd_same⟩
    · rintro vs F2 H5 s2 ⟨x, rfl, q2, rfl, h2⟩ a2 Q' k
      refine ⟨q2, _, rfl, a2.l (.of h2), ?_⟩
      rw [sum_T]
      exact k _ F2 _ (Same.refl _) a2 rfl
end
end PA
namespace PA
open PySem PyProof.Rows L2
section
variable {P : Program} {w : World} {K : PySem.W.Frag} {mg : Str → Option Value} {base : Heap}
def J_lp (p : Wd) (ca aa r pl : Addr) (c : List Int) (a : Arr) (run : List Nat) (lim : Int) : LJ := fun i σ' p' _ => ∃ v6 : Option V, p' = p ∧ σ' = [some (.ref ca), some (.ref aa), some (.ref r), some (.int lim), some (.int (PA.T c a run i)), some (.ref pl), v6] ∧ ∀ j, j < i → U c a run j ≤ lim
abbrev st_law_plain : Stmt := top 66
theorem sc_law_plain : FnScope ["_law_costs_here", "_law_arrows", "_law_run_here", "_law_limit", "_law_used_here", "_law_places_here", "_law_step"] ["_law_costs_here", "_law_arrows", "_law_run_here", "_law_limit"] (defScope st_law_plain) := ⟨rfl, rfl, rfl, by decide +kernel, rfl, by decide +kernel, by decide +kernel⟩
theorem cal_law_plain (M : Bl mg) {C : Cs} (T : Tx K C.c C.m C.s) (c_law_places : Cal P w K mg base 1 "_law_places" (sp_law_places K)) (D : Df K mg "_law_plain" st_law_plain ["_law_costs_here", "_law_arrows", "_law_run_here", "_law_limit"]) : Cal P w K mg base 2 "_law_plain" (sp_law_plain K) := by
  refine cal_of D sc_law_plain (fun vs H Q E h => ?_) (fun f cdv A outer s H vs Q E hr h => ?_)
  · obtain ⟨p, F, ca, aa, r, c, a, run, lim, rfl, _⟩ := h
    rfl
  · have sc := sc_law_plain
    refine ⟨_, (pss_cons
      (ps_set (i := 4) sc.nd rfl (Or.inl rfl) pe_int)
      (pss_cons
      (ps_set (i := 5) sc.nd rfl (Or.inl rfl) (pe_c c_law_places hr (by decide) rfl (pa_cons (pv 1) (pa_cons (pv 2) pa_nil))))
      (pss_cons
      (ps_for PassesOwn.never rfl (pi_range1 rfl M.b_range (pa_cons (pe_callB (call_lenK (K := K)) rfl M.b_len bt_len (pa_cons (pv 5) pa_nil)) pa_nil)) (pg_name (i := 6) sc.nd rfl (Or.inl rfl))
      (pss_cons
      (ps_set (i := 4) sc.nd rfl (Or.inl rfl) (pe_op op_add (pv 4) (pe_ix (ix_K (K := K)) (pv 0) (pe_ix (ix_K (K := K)) (pv 5) (pv 6) (fun _ _ => rfl)) (fun _ _ => rfl))))
      (pss_one
      (ps_if (pt_cmpR op_gt (pv 4) (pv 3) (nomark _))
      (pss_one
      (ps_ret (pv 6)))
      pss_nil))))
      (pss_one
      (ps_ret (pe_callB (call_lenK (K := K)) rfl M.b_len bt_len (pa_cons (pv 5) pa_nil))))))), ?_⟩
    obtain ⟨p, F, ca, aa, r, c, a, run, lim, rfl, at0, hca, haa, hC, hr', hrun, hlen, q⟩ := h
    have hpl : (plV a run).length = run.length + 1 := by unfold plV; rw [List.length_map, List.length_range]
    refine sq (st_asgV at0 ev_c fun H1 a1 => ?_)
    refine sq (st_asg (P := fun v F2 => ∃ l, v = .ref l ∧ F2 l = some (.lst (plV a run))) a1 (ev_call (ea_cons (ev_var rfl) (ea_cons (ev_var rfl) ea_nil)) fun F2 H s2 a2 Q k => ⟨p, F2, aa, r, a, run, rfl, a2, haa.mono s2, hr'.mono s2, hrun, hlen, fun v F3 H3 s3 a3 ⟨l, ev, _, hl⟩ => k v F3 H3 s3 a3 ⟨l, ev, hl⟩⟩) fun v F2 H2 s2 a2 ⟨pl, ev, hl⟩ => ?_)
    subst ev
    refine sq (st_forR1 (n := run.length + 1) (J_lp p ca aa r pl c a run lim) a2 (ea_cons ((ev_len (ev_var rfl) (.lst hl)).is (by rw [hpl])) ea_nil) (by omega) ⟨none, rfl, rfl, fun j hj => absurd hj (Nat.not_lt_zero _)⟩ ?_ ?_)
    · rintro i σ' p' F3 H3 hi s3 a3 ⟨v6, rfl, rfl, hu⟩
      have hg : (plV a run)[i]? = some (.int (plc a run i : Int)) := by
        unfold plV
        rw [List.getElem?_map, List.getElem?_range hi]
        rfl
      refine sq (st_asgV a3 (ev_add (ev_var rfl) (ev_ii (ev_var rfl) (ev_ix (ev_var rfl) (ev_var rfl) (.lst (s3 _ _ hl)) (at_get hg)) (.t (same_t (s2.trans s3) hca)) (plc_lt hC hrun (i := i) (by omega)))) fun H4 a4 => ?_)
      refine st_if a4 (et_test (ev_gt (ev_var rfl) (ev_var rfl))) (fun hb H5 a5 => ?_) (fun hb H5 a5 => ?_)
      · have hgt : lim < U c a run i := of_decide_eq_true hb
        refine st_retV a5 (ev_var rfl) fun H6 a6 => ?_
        exact q i ⟨by omega, hu, fun _ => hgt⟩ _ (a6.less (s2.trans s3))
      · have hle : ¬ lim < U c a run i := of_decide_eq_false hb
        refine ⟨_, F3, s3, a5, _, rfl, rfl, fun j hj => ?_⟩
        by_cases z : j = i
        · subst z; omega
        · exact hu j (by omega)
    · rintro σ' p' F3 H3 s3 a3 ⟨v6, rfl, rfl, hu⟩
      have el : Ev p' (tCB (rLen K) (tCons (tVar 5) tNil)) [some (.ref ca), some (.ref aa), some (.ref r), some (.int lim), some (.int (PA.T c a run (run.length + 1))), some (.ref pl), v6] F3 (.int ((run.length + 1 : Nat) : Int)) := (ev_len (ev_var rfl) (.lst (s3 _ _ hl))).is (by rw [hpl])
      exact st_retV (σ := [some (.ref ca), some (.ref aa), some (.ref r), some (.int lim), some (.int (PA.T c a run (run.length + 1))), some (.ref pl), v6]) (D := { nx := fun x H' => Q V.non H', rt := Q }) a3 el fun H6 a6 => q _ ⟨Nat.le_refl _, hu, fun z => by omega⟩ _ (a6.less (s2.trans s3))
end
end PA
namespace PA
open PySem PyProof.Rows L2
section
variable {P : Program} {w : World} {K : PySem.W.Frag} {mg : Str → Option Value} {base : Heap}
structure Nm (n : Nat) (ns rs : List Nat) : Prop where
  z : ns[0]? = some 0
  lt : ∀ x ∈ ns, x < n
  rlt : ∀ x ∈ rs, x < n
  all : ∀ v, v < n → v ∈ ns ∨ v ∈ rs
theorem Nm.pop {n k : Nat} {ns rs : List Nat} (h : Nm n ns rs) (hk : k < rs.length) : Nm n (ns ++ [rs[k]]) (rs.eraseIdx k) where
  z := by
    have := h.z
    cases ns with
    | nil => cases this
    | cons x r => exact this
  lt := fun x hx => by
    rcases List.mem_append.mp hx with z | z
    · exact h.lt x z
    · rw [List.mem_singleton.mp z]
      exact h.rlt _ (List.getElem_mem hk)
  rlt := fun x hx => h.rlt x (List.mem_of_mem_eraseIdx hx)
  all := fun v hv => by
    rcases h.all v hv with z | z
    · exact .inl (List.mem_append_left _ z)
    · by_cases e : v = rs[k]
      · exact .inl (List.mem_append_right _ (List.mem_singleton.mpr e))
      · refine .inr ?_
        obtain ⟨j, hj, ej⟩ := List.mem_iff_getElem.mp z
        rw [List.mem_eraseIdx_iff_getElem]
        exact ⟨j, hj, fun z2 => e (by subst z2; exact ej.symm), ej⟩
theorem Nm.ok {n : Nat} {ns : List Nat} {a : Arr} (h : Nm n ns []) (hl : ns.length = n) (ha : ArOk n a) : ArOk n (a.map fun e => (ns.getD e.1 0, ns.getD e.2 0)) where
  ends := fun e he => by
    obtain ⟨e', h1, rfl⟩ := List.mem_map.mp he
    have h2 := ha.ends e' h1
    have g : ∀ i, i < n → ns.getD i 0 < n := fun i hi => by
      rw [List.getD_eq_getElem?_getD, List.getElem?_eq_getElem (by omega)]
      exact h.lt _ (List.getElem_mem _)
    exact ⟨g _ h2.1, g _ h2.2⟩
  reach := fun v hv => by
    have hm := (h.all v hv).resolve_right (by simp)
    obtain ⟨u, hu, eu⟩ := List.mem_iff_getElem.mp hm
    have z : ns.getD 0 0 = 0 := by rw [List.getD_eq_getElem?_getD, h.z]; rfl
    have r := (ha.reach u (by omega)).map (f := fun i => ns.getD i 0) z
    have e : ns.getD u 0 = v := by rw [List.getD_eq_getElem?_getD, List.getElem?_eq_getElem hu, eu]; rfl
    have r2 : Reach (a.map fun e => (ns.getD e.1 0, ns.getD e.2 0)) (ns.getD u 0) := r
    rw [e] at r2
    exact r2
theorem map_erase {α β : Type} (f : α → β) : ∀ (l : List α) (k : Nat), (l.map f).eraseIdx k = (l.eraseIdx k).map f
  | [], _ => rfl
  | _ :: _, 0 => rfl
  | x :: l, k + 1 => congrArg (f x :: ·) (map_erase f l k)
abbrev nat_vs (ns : List Nat) : List V := ns.map fun (k : Nat) => V.int (k : Int)
def J_ln (p : Wd) (hh aa R N : Addr) (n : Nat) : LJ := fun i σ' p' _ => ∃ (ns rs : List Nat) (v5 v6 v7 : Option V), p' = .own (.own p R (.lst (nat_vs rs))) N (.lst (nat_vs ns)) ∧ σ' = [some (.ref hh), some (.int (n : Int)), some (.ref aa), some (.ref R), some (.ref N), v5, v6, v7] ∧ Nm n ns rs ∧ ns.length = i + 1 ∧ ns.length + rs.length = n
theorem nm_start {n : Nat} (h : 1 ≤ n) : Nm n [0] ((List.range (n - 1)).map fun k => k + 1) where
  z := rfl
  lt := fun x hx => by rw [List.mem_singleton.mp hx]; exact h
  rlt := fun x hx => by
    obtain ⟨y, hy, rfl⟩ := List.mem_map.mp hx
    have := List.mem_range.mp hy
    omega
  all := fun v hv => by
    cases v with
    | zero => exact .inl (List.mem_singleton.mpr rfl)
    | succ v => exact .inr (List.mem_map.mpr ⟨v, List.mem_range.mpr (by omega), rfl⟩)
abbrev st_law_renumbered : Stmt := top 60
theorem sc_law_renumbered : FnScope ["_law_hand_here", "_law_many", "_law_arrows", "_law_rest", "_law_names", "_law_step", "_law_tail", "_law_head"] ["_law_hand_here", "_law_many", "_law_arrows"] (defScope st_law_renumbered) := ⟨rfl, rfl, rfl, by decide +kernel, rfl, by decide +kernel, by decide +kernel⟩
theorem cal_law_renumbered (M : Bl mg) {C : Cs} (T : Tx K C.c C.m C.s) (c_law_take : Cal P w K mg base 2 "_law_take" (sp_law_take K)) (D : Df K mg "_law_renumbered" st_law_renumbered ["_law_hand_here", "_law_many", "_law_arrows"]) : Cal P w K mg base 3 "_law_renumbered" (sp_law_renumbered K) := by
  refine cal_of D sc_law_renumbered (fun vs H Q E h => ?_) (fun f cdv A outer s H vs Q E hr h => ?_)
  · obtain ⟨p, F, hh, aa, n, a, rfl, _⟩ := h
    rfl
  · have sc := sc_law_renumbered
    refine ⟨_, (pss_cons
      (ps_if (pt_truK (K := K) rfl (pe_c c_law_take hr (by decide) rfl (pa_cons (pv 0) (pa_cons pe_int pa_nil))))
      (pss_one
      (ps_ret (pv 2)))
      pss_nil)
      (pss_cons
      (ps_set (i := 3) sc.nd rfl (Or.inl rfl) (pe_listRg rfl rfl M.b_list (prg_2 rfl M.b_range pe_int (pv 1))))
      (pss_cons
      (ps_set (i := 4) sc.nd rfl (Or.inr rfl) (pe_lst (pa_cons pe_int pa_nil)))
      (pss_cons
      (ps_for PassesOwn.never rfl (pi_range1 rfl M.b_range (pa_cons (pe_op op_sub (pv 1) pe_int) pa_nil)) (pg_name (i := 5) sc.nd rfl (Or.inl rfl))
      (pss_one
      (ps_expr (pe_bm PySem.F.plainAttrs_list PySem.F.slot_list_append PySem.F.type_list_append mt_append (pv 4) (pa_cons (pe_bm PySem.F.plainAttrs_list PySem.F.slot_list_pop PySem.F.type_list_pop mt_popAt (pv 3) (pa_cons (pe_c c_law_take hr (by decide) rfl (pa_cons (pv 0) (pa_cons (pe_callB (call_lenK (K := K)) rfl M.b_len bt_len (pa_cons (pv 3) pa_nil)) pa_nil))) pa_nil)) pa_nil)))))
      (pss_one
      (ps_ret (pe_lc (own := [("_law_tail", 6), ("_law_head", 7)]) rfl sc.nd (pi_listK (K := K) rfl (pv 2)) (blkOk_by (by kernel_rfl)) (fun _ _ _ _ _ => (pg_tupK (K := K) (n := 2) rfl rfl (pgs_cons (pg_name (i := 6) sc.nd rfl (Or.inl rfl)) (pgs_cons (pg_name (i := 7) sc.nd rfl (Or.inl rfl)) pgs_nil)))) (fun _ _ _ _ _ => pts_nil) (fun _ _ _ _ _ => (pe_tup (pa_cons (pe_ix (ix_K (K := K)) (pv 4) (pv 6) (fun _ _ => rfl)) (pa_cons (pe_ix (ix_K (K := K)) (pv 4) (pv 7) (fun _ _ => rfl)) pa_nil))))))))))), ?_⟩
    obtain ⟨p, F, hh, aa, n, a, rfl, at0, hd, haa, n1, n2, hal, hok, q⟩ := h
    refine sq (st_ifP at0 (et_takeP (n := 2) (ea_cons (ev_var rfl) (ea_cons ev_c ea_nil)) hd (by decide) (by decide)) (fun _ H1 a1 => ?_) (fun _ H1 a1 => ?_))
    · exact st_retV a1 (ev_var rfl) fun H2 a2 => q _ F H2 (Same.refl _) a2 ⟨aa, a, rfl, haa, rfl, hok⟩
    dsimp only [tNext]
    have erg : rgV 1 (n : Int) = nat_vs ((List.range (n - 1)).map fun k => k + 1) := by
      unfold rgV
      rw [show ((n : Int) - 1).toNat = n - 1 by omega, nat_vs, List.map_map]
      refine List.map_congr_left fun k _ => ?_
      show V.int (1 + (k : Int)) = V.int ((k + 1 : Nat) : Int)
      congr 1
      omega
    refine sq (st_asgM a1 (ev_lstRg ev_c (ev_var rfl) ⟨by omega, by omega, by omega, by omega, by omega⟩) fun R H2 nR a2 => ?_)
    rw [erg] at a2
    refine sq (st_asgM a2 (ev_lst (ea_cons ev_c ea_nil) (show 1 ≤ 100000 by decide)) fun N H3 nN a3 => ?_)
    refine sq (st_forR1 (n := n - 1) (J_ln p hh aa R N n) a3 (ea_cons ((ev_sub (ev_var rfl) ev_c).is (congrArg V.int (show (n : Int) - 1 = ((n - 1 : Nat) : Int) by omega))) ea_nil) (by omega) ⟨[0], _, none, none, none, rfl, rfl, nm_start n1, rfl, by rw [List.length_map, List.length_range]; simp; omega⟩ ?_ ?_)
    · rintro i σ' p' F1 H4 hi s1 a4 ⟨ns, rs, v5, v6, v7, rfl, rfl, nm, hl, hlr⟩
      refine st_popApp a4 (ev_var rfl) (ev_var rfl) ((ev_take (n := rs.length) (ea_cons (ev_var rfl) (ea_cons ((ev_len (ev_var rfl) .own2).is (by rw [List.length_map])) ea_nil)) (hd.own.own.mono s1) (by omega) (by omega)).imp fun v F2 _ ⟨k, ev, hk⟩ => ⟨k, ev, by rw [List.length_map]; exact hk⟩) (by rw [List.length_map]; omega) (by rw [List.length_map]; omega) fun k y F2 H7 ey s2 a7 => ?_
      have hk : k < rs.length := by have := (List.getElem?_eq_some_iff.mp ey).1; rw [List.length_map] at this; exact this
      rw [List.getElem?_map, List.getElem?_eq_getElem hk] at ey
      obtain rfl := Option.some.inj ey
      have e : (nat_vs rs).eraseIdx k = nat_vs (rs.eraseIdx k) := map_erase _ _ _
      rw [e] at a7
      refine ⟨_, F2, s1.trans s2, a7, ns ++ [rs[k]], rs.eraseIdx k, _, _, _, by rw [show nat_vs (ns ++ [rs[k]]) = nat_vs ns ++ [V.int (rs[k] : Int)] from List.map_append ..], rfl, nm.pop hk, by rw [List.length_append, hl]; rfl, ?_⟩
      rw [List.length_append, List.length_eraseIdx_of_lt hk]
      simp
      omega
    · rintro σ' p' F1 H4 s1 a4 ⟨ns, rs, v5, v6, v7, rfl, rfl, nm, hl, hlr⟩
      have hr0 : rs = [] := List.eq_nil_of_length_eq_zero (by omega)
      subst hr0
      have a5 := a4.give.give
      have sg := a4.give_same.trans a4.give.give_same
      have hN := a4.give.give_same _ _ (upd_same : (upd F1 N (.lst (nat_vs ns))) N = _)
      generalize upd (upd F1 N (.lst (nat_vs ns))) R (.lst (nat_vs [])) = F2 at a5 sg hN
      have s12 := s1.trans sg
      obtain ⟨as, ha, hp⟩ := haa.mono s12
      have has : as.length = a.length := by rw [hp.1, prs_len]
      have ix : ∀ m, m < n → (nat_vs ns)[m]? = some (.int ((ns.getD m 0 : Nat) : Int)) := fun m hm => by
        rw [List.getElem?_map, List.getD_eq_getElem?_getD, List.getElem?_eq_getElem (by omega)]
        rfl
      refine st_ret a5 ((ev_lcL2 (J := fun i acc F3 => ∃ as' : List Addr, acc = as'.map V.ref ∧ PairsAt K F3 as' (prs ((a.map fun e => (ns.getD e.1 0, ns.getD e.2 0)).take i))) (ev_var rfl) ha hp (by omega) (fun _ _ => rfl) (fun _ _ => ⟨[], rfl, rfl, fun i b e => by cases e⟩) fun i pr acc F3 p' hi s3 ⟨as', e1, e2⟩ hl' hD => LcT.all ?_).imp ?_) fun v F3 H6 s3 a6 h => q v F3 H6 (s12.trans s3) a6 h
      · have hil : i < a.length := by have := (List.getElem?_eq_some_iff.mp hi).1; rw [prs_len] at this; exact this
        rw [prs_get hil] at hi
        obtain rfl := Option.some.inj hi
        have he := hok.ends _ (ar_mem hil)
        refine (ev_tup (ea_cons (ev_ix (ev_var rfl) (ev_var rfl) (.lst (s3 _ _ hN)) (at_get (ix _ he.1))) (ea_cons (ev_ix (ev_var rfl) (ev_var rfl) (.lst (s3 _ _ hN)) (at_get (ix _ he.2))) ea_nil)) (show 2 ≤ 100000 by decide)).imp fun v F4 s4 ⟨b, ev, nb, hb⟩ => ?_
        subst ev
        refine ⟨as' ++ [b], by rw [e1, List.map_append]; rfl, ?_⟩
        have et : (a.map fun e => (ns.getD e.1 0, ns.getD e.2 0)).take (i + 1) = (a.map fun e => (ns.getD e.1 0, ns.getD e.2 0)).take i ++ [(ns.getD (ar a i).1 0, ns.getD (ar a i).2 0)] := by
          rw [List.take_add_one, List.getElem?_map, ar_get hil]
          rfl
        rw [et, prs_append]
        exact pairs_snoc (e2.mono s4) (.of hb)
      · rintro v F3 s3 ⟨q2, ys, F4, ev, _, n4, ef, s4, _, as', ey, hp'⟩
        rw [prs_len, List.take_of_length_le (by rw [List.length_map]; exact Nat.le_refl _)] at hp'
        exact ⟨q2, _, ev, ⟨as', .of (by rw [ef, ey]; exact upd_same), hp'.mono (by rw [ef]; exact same_new n4)⟩, by rw [List.length_map], nm.ok (by simp at hlr; omega) hok⟩
end
end PA
namespace PA
open PySem PyProof.Rows L2
section
variable {P : Program} {w : World} {K : PySem.W.Frag} {mg : Str → Option Value} {base : Heap}
abbrev st_law_costs : Stmt := top 61
theorem sc_law_costs : FnScope ["_law_hand_here", "_law_many", "_law_bound", "_law_place"] ["_law_hand_here", "_law_many"] (defScope st_law_costs) := ⟨rfl, rfl, rfl, by decide +kernel, rfl, by decide +kernel, by decide +kernel⟩
theorem cal_law_costs (M : Bl mg) {C : Cs} (T : Tx K C.c C.m C.s) (c_law_take : Cal P w K mg base 2 "_law_take" (sp_law_take K)) (D : Df K mg "_law_costs" st_law_costs ["_law_hand_here", "_law_many"]) : Cal P w K mg base 3 "_law_costs" (sp_law_costs K) := by
  refine cal_of D sc_law_costs (fun vs H Q E h => ?_) (fun f cdv A outer s H vs Q E hr h => ?_)
  · obtain ⟨p, F, hh, n, rfl, _⟩ := h
    rfl
  · have sc := sc_law_costs
    refine ⟨_, (pss_cons
      (ps_set (i := 2) sc.nd rfl (Or.inr rfl) (pe_ix (ix_K (K := K)) (pe_tup (pa_cons pe_int (pa_cons pe_int (pa_cons pe_int (pa_cons (pe_op op_add (pe_op op_pow pe_int pe_int) pe_int) pa_nil))))) (pe_c c_law_take hr (by decide) rfl (pa_cons (pv 0) (pa_cons pe_int pa_nil))) (fun _ _ => rfl)))
      (pss_one
      (ps_ret (pe_lc (own := [("_law_place", 3)]) rfl sc.nd (pi_range1 rfl M.b_range (pa_cons (pv 1) pa_nil)) (blkOk_by (by kernel_rfl)) (fun _ _ _ _ _ => (pg_name (i := 3) sc.nd rfl (Or.inl rfl))) (fun _ _ _ _ _ => pts_nil) (fun _ _ _ _ _ => (pe_ifExp (pt_cmpR op_eq (pe_c c_law_take hr (by decide) rfl (pa_cons (pv 0) (pa_cons pe_int pa_nil))) pe_int (nomark _)) pe_int (pe_c c_law_take hr (by decide) rfl (pa_cons (pv 0) (pa_cons (pv 2) pa_nil))))))))), ?_⟩
    obtain ⟨p, F, hh, n, rfl, at0, hd, hn, q⟩ := h
    refine sq (st_asg (P := fun v _ => ∃ b : Nat, v = .int (b : Int) ∧ 1 ≤ b ∧ b ≤ 1000000001) at0 (ev_opP (Pb := fun _ y _ => ∃ k : Nat, y = .int (k : Int) ∧ k < 4) (ev_tup (ea_cons ev_c (ea_cons ev_c (ea_cons ev_c (ea_cons (ev_add ev_p9 ev_c) ea_nil)))) (show 4 ≤ 100000 by decide)) (fun x F1 s1 _ => ev_take (n := 4) (ea_cons (ev_var rfl) (ea_cons ev_c ea_nil)) (hd.mono s1) (by decide) (by decide)) fun x y F1 F2 H2 s1 ⟨a, ex, _, ha⟩ s2 ⟨k, ey, hk⟩ a2 Q k' => ?_) fun v F1 H1 s1 a1 ⟨b, ev, b1, b2⟩ => ?_)
    · subst ex ey
      have hx : SqT K H2 a [.int 4, .int 7, .int 2, .int (1000000000 + 1)] := a2.t (.of (s2 _ _ ha))
      have hb : ∃ b : Nat, ([.int 4, .int 7, .int 2, .int (1000000000 + 1)] : List V)[k]? = some (.int (b : Int)) ∧ 1 ≤ b ∧ b ≤ 1000000001 := by
        match k, hk with
        | 0, _ => exact ⟨4, rfl, by decide, by decide⟩
        | 1, _ => exact ⟨7, rfl, by decide, by decide⟩
        | 2, _ => exact ⟨2, rfl, by decide, by decide⟩
        | 3, _ => exact ⟨1000000001, rfl, by decide, by decide⟩
      obtain ⟨b, e1, e2⟩ := hb
      exact .inr (.inl ⟨a, _, _, _, rfl, rfl, hx, at_get e1, k' _ F2 H2 (Same.refl _) a2 ⟨b, rfl, e2⟩⟩)
    subst ev
    refine st_ret a1 ((ev_lcR (n := n) (J := fun i acc _ => ∃ cs : List Int, acc = cs.map V.int ∧ cs.length = i ∧ ∀ x ∈ cs, 0 ≤ x ∧ x ≤ 1000000000) (ea_cons (ev_var rfl) ea_nil) (by omega) (fun _ => rfl) (fun _ _ => ⟨[], rfl, rfl, fun x hx => by cases hx⟩) fun i acc F3 p' hi s3 ⟨cs, e1, e2, e3⟩ hl hD => LcT.all ?_).imp fun v F3 s3 ⟨l, xs, F4, ev, _, n4, ef, s4, _, cs, e1, e2, e3⟩ => ⟨l, cs, ev, by rw [ef, e1]; exact .of upd_same, e2, e3⟩) fun v F3 H3 s3 a3 h => q v F3 H3 (s1.trans s3) a3 h
    have hd3 := hd.at hD (s1.trans s3)
    have add : ∀ x : Int, 0 ≤ x → x ≤ 1000000000 → ∃ cs : List Int, acc ++ [V.int x] = cs.map V.int ∧ cs.length = i + 1 ∧ ∀ x ∈ cs, 0 ≤ x ∧ x ≤ 1000000000 := fun x x0 x1 => ⟨cs ++ [x], by rw [e1, List.map_append]; rfl, by rw [List.length_append, e2]; rfl, fun y hy => by
      rcases List.mem_append.mp hy with z | z
      · exact e3 y z
      · rw [List.mem_singleton.mp z]; exact ⟨x0, x1⟩⟩
    refine ev_ifP (Pt := fun _ => True) (et_testP ((ev_opP (P := fun v _ => ∃ b, v = .bl b ∧ True) (Pb := fun _ y _ => y = .int 0) (ev_take (n := 6) (ea_cons (ev_var rfl) (ea_cons ev_c ea_nil)) hd3 (by decide) (by decide)) (fun x F1 s _ => Ev.toP ev_c) fun x y F1 F2 H2 s1 ⟨k, ex, _⟩ s2 ey a2 Q k' => ?_))) (fun _ => ev_c.toPP fun F5 _ => add 0 (by decide) (by decide)) (fun _ => (ev_take (n := b) (ea_cons (ev_var rfl) (ea_cons (ev_var rfl) ea_nil)) hd3 b1 (by omega)).imp fun v F5 _ ⟨k, ev, hk⟩ => ?_)
    · subst ex ey
      exact ⟨rfl, k' _ F2 H2 (Same.refl _) a2 ⟨_, rfl, True.intro⟩⟩
    · subst ev
      exact add k (by omega) (by omega)
end
end PA
namespace PA
open PySem PyProof.Rows L2
section
variable {P : Program} {w : World} {K : PySem.W.Frag} {mg : Str → Option Value} {base : Heap}
abbrev st_law_lot : Stmt := top 62
theorem sc_law_lot : FnScope ["_law_hand_here", "_law_arrows", "_law_dense", "_law_arrow"] ["_law_hand_here", "_law_arrows", "_law_dense"] (defScope st_law_lot) := ⟨rfl, rfl, rfl, by decide +kernel, rfl, by decide +kernel, by decide +kernel⟩
theorem cal_law_lot (M : Bl mg) {C : Cs} (T : Tx K C.c C.m C.s) (c_law_take : Cal P w K mg base 2 "_law_take" (sp_law_take K)) (D : Df K mg "_law_lot" st_law_lot ["_law_hand_here", "_law_arrows", "_law_dense"]) : Cal P w K mg base 3 "_law_lot" (sp_law_lot K) := by
  refine cal_of D sc_law_lot (fun vs H Q E h => ?_) (fun f cdv A outer s H vs Q E hr h => ?_)
  · obtain ⟨p, F, hh, aa, a, dense, rfl, _⟩ := h
    rfl
  · have sc := sc_law_lot
    refine ⟨_, (pss_one
      (ps_ret (pe_callTy (call_tupK (K := K)) rfl M.b_tuple bt_tuple (pa_cons (pe_lc (own := [("_law_arrow", 3)]) rfl sc.nd (pi_range1 rfl M.b_range (pa_cons (pe_callB (call_lenK (K := K)) rfl M.b_len bt_len (pa_cons (pv 1) pa_nil)) pa_nil)) (blkOk_by (by kernel_rfl)) (fun _ _ _ _ _ => (pg_name (i := 3) sc.nd rfl (Or.inl rfl))) (fun _ _ _ _ _ => (pts_one (pt_cmpR op_ge (pe_c c_law_take hr (by decide) rfl (pa_cons (pv 0) (pa_cons pe_int pa_nil))) (pv 2) (nomark _)))) (fun _ _ _ _ _ => (pv 3))) pa_nil)))), ?_⟩
    obtain ⟨p, F, hh, aa, a, dense, rfl, at0, hd, ⟨as, ha, hp⟩, hal, q⟩ := h
    have hml : (as.map V.ref).length = a.length := by rw [List.length_map, hp.1, prs_len]
    refine st_ret at0 ((ev_tupM (Pt := fun xs _ => ∃ lot : List Int, xs = lot.map V.int ∧ lot.length ≤ a.length) ((ev_lcR (n := a.length) (J := fun i acc _ => ∃ lot : List Int, acc = lot.map V.int ∧ lot.length ≤ i) (ea_cons ((ev_len (ev_var rfl) (.t ha)).is (by rw [hml])) ea_nil) (by omega) (fun _ => rfl) (fun _ _ => ⟨[], rfl, Nat.le_refl _⟩) fun i acc F3 p' hi s3 ⟨lot, e1, e2⟩ hl hD => ⟨fun _ => True, et_testP (ev_opP (P := fun v _ => ∃ b, v = .bl b ∧ True) (Pb := fun _ y _ => y = .int dense) (ev_take (n := 4) (ea_cons (ev_var rfl) (ea_cons ev_c ea_nil)) (hd.at hD s3) (by decide) (by decide)) (fun x F1 s _ => Ev.toP (ev_var rfl)) fun x y F1 F2 H2 s1 ⟨k, ex, _⟩ s2 ey a2 Q k' => ⟨_, _, ex, ey, k' _ F2 H2 (Same.refl _) a2 ⟨_, rfl, True.intro⟩⟩), fun _ => (ev_var rfl).toPP fun F5 _ => ⟨lot ++ [(i : Int)], by rw [e1, List.map_append]; rfl, by rw [List.length_append]; exact Nat.succ_le_succ e2⟩, fun _ => ⟨lot, e1, by omega⟩⟩).imp fun v F3 s3 ⟨l, xs, F4, ev, _, n4, ef, s4, _, j⟩ => ⟨l, xs, ev, by rw [ef]; exact .of upd_same, j⟩)).imp fun v F2 s2 ⟨t, xs, F3, ev, _, n3, s3, ef, lot, ex, hl⟩ => ⟨t, lot, ev, by rw [ef, ex]; exact .of upd_same, hl⟩) q
end
end PA
namespace PA
open PySem PyProof.Rows L2
section
variable {P : Program} {w : World} {K : PySem.W.Frag} {mg : Str → Option Value} {base : Heap}
def J_lr_ (p : Wd) (hh aa R : Addr) (a : Arr) (most : Nat) : LJ := fun i σ' p' _ => ∃ (run : List Nat) (v5 v6 v7 : Option V), p' = .own p R (.lst (run.map fun (k : Nat) => V.int (k : Int))) ∧ σ' = [some (.ref hh), some (.ref aa), some (.int (most : Int)), some (.ref R), some (.int (plc a run run.length : Int)), v5, v6, v7] ∧ IsRun a 0 run ∧ run.length ≤ i
theorem plc_snoc {a : Arr} {run : List Nat} {k : Nat} : plc a (run ++ [k]) (run ++ [k]).length = (ar a k).2 := by
  rw [List.length_append]
  show plc a (run ++ [k]) (run.length + 1) = _
  rw [plc_succ (by rw [List.length_append]; exact Nat.lt_succ_self _)]
  unfold rn
  rw [List.getD_eq_getElem?_getD, List.getElem?_append_right (Nat.le_refl _), Nat.sub_self]
  rfl
abbrev st_law_run : Stmt := top 63
theorem sc_law_run : FnScope ["_law_hand_here", "_law_arrows", "_law_most", "_law_run_here", "_law_place", "_law_step", "_law_outs", "_law_arrow"] ["_law_hand_here", "_law_arrows", "_law_most"] (defScope st_law_run) := ⟨rfl, rfl, rfl, by decide +kernel, rfl, by decide +kernel, by decide +kernel⟩
theorem cal_law_run (M : Bl mg) {C : Cs} (T : Tx K C.c C.m C.s) (c_law_take : Cal P w K mg base 2 "_law_take" (sp_law_take K)) (D : Df K mg "_law_run" st_law_run ["_law_hand_here", "_law_arrows", "_law_most"]) : Cal P w K mg base 3 "_law_run" (sp_law_run K) := by
  refine cal_of D sc_law_run (fun vs H Q E h => ?_) (fun f cdv A outer s H vs Q E hr h => ?_)
  · obtain ⟨p, F, hh, aa, a, most, rfl, _⟩ := h
    rfl
  · have sc := sc_law_run
    refine ⟨_, (pss_cons
      (ps_set (i := 3) sc.nd rfl (Or.inl rfl) (pe_lst pa_nil))
      (pss_cons
      (ps_set (i := 4) sc.nd rfl (Or.inr rfl) pe_int)
      (pss_cons
      (ps_for PassesOwn.never rfl (pi_range1 rfl M.b_range (pa_cons (pe_c c_law_take hr (by decide) rfl (pa_cons (pv 0) (pa_cons (pe_op op_add (pv 2) pe_int) pa_nil))) pa_nil)) (pg_name (i := 5) sc.nd rfl (Or.inl rfl))
      (pss_cons
      (ps_setLc (i := 6) (own := [("_law_arrow", 7)]) rfl sc.nd rfl rfl (sw_true rfl rfl rfl (by kernel_rfl)) (pi_range1 rfl M.b_range (pa_cons (pe_callB (call_lenK (K := K)) rfl M.b_len bt_len (pa_cons (pv 1) pa_nil)) pa_nil)) (blkOk_by (by kernel_rfl)) (fun _ _ _ _ _ => (pg_name (i := 7) sc.nd rfl (Or.inl rfl))) (fun _ _ _ _ _ => (pts_one (pt_cmpR op_eq (pe_ix (ix_K (K := K)) (pe_ix (ix_K (K := K)) (pv 1) (pv 7) (fun _ _ => rfl)) pe_int (fun _ _ => rfl)) (pv 4) (nomark _)))) (fun _ _ _ _ _ => (pv 7)))
      (pss_cons
      (ps_if (pt_not (pt_truK (K := K) rfl (pv 6)))
      (pss_one
      ps_break)
      pss_nil)
      (pss_cons
      (ps_set (i := 7) sc.nd rfl (Or.inl rfl) (pe_ix (ix_K (K := K)) (pv 6) (pe_c c_law_take hr (by decide) rfl (pa_cons (pv 0) (pa_cons (pe_callB (call_lenK (K := K)) rfl M.b_len bt_len (pa_cons (pv 6) pa_nil)) pa_nil))) (fun _ _ => rfl)))
      (pss_cons
      (ps_expr (pe_bm PySem.F.plainAttrs_list PySem.F.slot_list_append PySem.F.type_list_append mt_append (pv 3) (pa_cons (pv 7) pa_nil)))
      (pss_one
      (ps_set (i := 4) sc.nd rfl (Or.inr rfl) (pe_ix (ix_K (K := K)) (pe_ix (ix_K (K := K)) (pv 1) (pv 7) (fun _ _ => rfl)) pe_int (fun _ _ => rfl)))))))))
      (pss_one
      (ps_ret (pe_callTy (call_tupK (K := K)) rfl M.b_tuple bt_tuple (pa_cons (pv 3) pa_nil))))))), ?_⟩
    obtain ⟨p, F, hh, aa, a, most, rfl, at0, hd, haa, hal, hmost, q⟩ := h
    obtain ⟨as, h1, h2⟩ := haa.len
    have fin : ∀ {D : Ends} {σ : L2.St} {F1 H1 : Hp} {R : Addr} {run : List Nat}, D.rt = Q → Same F F1 → At (.own p R (.lst (run.map fun (k : Nat) => V.int (k : Int)))) F1 H1 → IsRun a 0 run → run.length ≤ most → σ[3]? = some (some (.ref R)) → tRet (tCB (rTupOf K) (tCons (tVar 3) tNil)) D σ H1 := fun {D σ F1 H1 R run} hD s1 a1 hrun hlen hR => st_ret a1.give (ev_tupL (ev_var hR) (.of upd_same)) fun v F2 H2 s2 a2 ⟨t, ev, _, ht⟩ => by
      rw [hD]
      exact q v F2 H2 (s1.trans (a1.give_same.trans s2)) a2 ⟨t, run, ev, .of ht, hrun, hlen⟩
    refine sq (st_asgM at0 (ev_lst ea_nil (show 0 ≤ 100000 by decide)) fun R H1 nR a1 => ?_)
    refine sq (st_asgV a1 ev_c fun H2 a2 => ?_)
    refine sq (st_forR1P (Pn := fun n _ => n ≤ most) (fun n => J_lr_ p hh aa R a most) a2 ((eap_one (ev_take (n := most + 1) (ea_cons (ev_var rfl) (ea_cons ((ev_add (ev_var rfl) ev_c).is (by rfl)) ea_nil)) hd.own (by omega) (by omega))).imp fun vs F1 _ ⟨x, ev, k, ex, hk⟩ => ⟨k, by rw [ev, ex], by omega, by omega⟩) (fun n F1 s1 hn => ⟨[], none, none, none, rfl, rfl, True.intro, Nat.le_refl _⟩) ?_ ?_)
    · rintro n F1 i σ' p' F2 H3 hi s1 hn s2 a3 ⟨run, v5, v6, v7, rfl, rfl, hrun, hlen⟩
      have s12 := s1.trans s2
      refine sq (st_asgLc a3 (ev_lcR (n := a.length) (J := fun i acc _ => ∃ os : List Nat, acc = os.map (fun (k : Nat) => V.int (k : Int)) ∧ ∀ k ∈ os, k < a.length ∧ (ar a k).1 = plc a run run.length) (ea_cons ((ev_len (ev_var rfl) (.t (same_t s12 h1))).is (by rw [h2])) ea_nil) (by omega) (fun _ => rfl) (fun _ _ => ⟨[], rfl, fun k hk => by cases hk⟩) fun j acc F3 p' hj s3 ⟨os, e1, e2⟩ hl hD => ⟨_, EvT.toP (et_test (ev_eq (ev_a0 (ev_var rfl) (ev_var rfl) (haa.mono (s12.trans s3)) hj) (ev_var rfl) rfl)), fun hb => (ev_var rfl).toPP fun F4 _ => ⟨os ++ [j], by rw [e1, List.map_append]; rfl, fun k hk => ?_⟩, fun _ => ⟨os, e1, e2⟩⟩) fun O xs F3 H4 s3 nO a4 ⟨hxl, os, ex, hos⟩ => ?_)
      · rcases List.mem_append.mp hk with z | z
        · exact e2 k z
        · rw [List.mem_singleton.mp z]
          have := V.int.inj (of_decide_eq_true hb.symm)
          exact ⟨hj, by omega⟩
      subst ex
      have a5 := a4.give
      have s13 := s12.trans (s3.trans a4.give_same)
      have hs := s2.trans (s3.trans a4.give_same)
      have hO : (upd F3 O (.lst (os.map fun (k : Nat) => V.int (k : Int)))) O = some (.lst (os.map fun (k : Nat) => V.int (k : Int))) := upd_same
      generalize upd F3 O (.lst (os.map fun (k : Nat) => V.int (k : Int))) = F4 at a5 s13 hO hs
      have hol : os.length ≤ 32 := by rw [List.length_map] at hxl; omega
      refine sq (st_if a5 (et_not (et_seq (ev_var rfl) (.lst hO))) (fun hb H5 a6 => ?_) (fun hb H5 a6 => ?_))
      · exact st_break (fin (by rfl) s13 a6 hrun (by omega) (by rfl))
      · have hne : 0 < os.length := by
          cases os with
          | nil => exact absurd hb (by decide)
          | cons _ _ => exact Nat.succ_pos _
        dsimp only [tNext]
        refine sq (st_asg (P := fun v _ => ∃ k : Nat, v = .int (k : Int) ∧ k < a.length ∧ (ar a k).1 = plc a run run.length) a6 (ev_opP (Ev.toP (ev_var rfl)) (Pb := fun _ y _ => ∃ k : Nat, y = .int (k : Int) ∧ k < os.length) (fun x F5 s5 _ => ev_take (n := os.length) (ea_cons (ev_var rfl) (ea_cons ((ev_len (ev_var rfl) (.lst (s5 _ _ hO))).is (by rw [List.length_map])) ea_nil)) (hd.own.mono (s13.trans s5)) hne (by omega)) fun x y F5 F6 H6 s5 ex s6 ⟨k, ey, hk⟩ a7 Q' k' => ?_) fun v F5 H6 s5 a7 ⟨k, ev, hk, hpk⟩ => ?_)
        · subst ex ey
          have e1 : (os.map fun (k : Nat) => V.int (k : Int))[k]? = some (.int (os[k] : Int)) := by rw [List.getElem?_map, List.getElem?_eq_getElem hk]; rfl
          exact .inl ⟨O, _, _, _, rfl, rfl, a7.l (.of ((s5.trans s6) _ _ hO)), at_get e1, k' _ F6 H6 (Same.refl _) a7 ⟨os[k], rfl, hos _ (List.getElem_mem hk)⟩⟩
        subst ev
        refine sq (st_app a7 (ev_var rfl) (Ev.toP (ev_var rfl)) (by rw [List.length_map]; omega) fun v F6 H7 s6 a8 ev => ?_)
        subst ev
        have s16 := s13.trans (s5.trans s6)
        refine st_asgV a8 (ev_a1 (ev_var rfl) (ev_var rfl) (haa.mono s16) hk) fun H8 a9 => ?_
        rw [← plc_snoc (run := run)]
        exact ⟨_, F6, hs.trans (s5.trans s6), a9, run ++ [k], _, _, _, by rw [List.map_append]; rfl, rfl, hrun.snoc hk hpk, by rw [List.length_append]; exact Nat.succ_le_succ hlen⟩
    · rintro n F1 σ' p' F2 H3 s1 hn s2 a3 ⟨run, v5, v6, v7, rfl, rfl, hrun, hlen⟩
      exact fin rfl (s1.trans s2) a3 hrun (by omega) rfl
end
end PA
namespace PA
open PySem PyProof.Rows L2
section
variable {P : Program} {w : World} {K : PySem.W.Frag} {mg : Str → Option Value} {base : Heap}
abbrev st_law_lists : Stmt := top 71
theorem sc_law_lists : FnScope ["_law_hand_here", "_law_thing"] ["_law_hand_here", "_law_thing"] (defScope st_law_lists) := ⟨rfl, rfl, rfl, by decide +kernel, rfl, by decide +kernel, by decide +kernel⟩
theorem cal_law_lists (M : Bl mg) {C : Cs} (T : Tx K C.c C.m C.s) (c_law_take : Cal P w K mg base 2 "_law_take" (sp_law_take K)) (D : Df K mg "_law_lists" st_law_lists ["_law_hand_here", "_law_thing"]) : Cal P w K mg base 3 "_law_lists" (sp_law_lists K) := by
  refine cal_of D sc_law_lists (fun vs H Q E h => ?_) (fun f cdv A outer s H vs Q E hr h => ?_)
  · obtain ⟨p, F, hh, r, run, rfl, _⟩ := h
    rfl
  · have sc := sc_law_lists
    refine ⟨_, (pss_one
      (ps_ret (pe_ifExp (pt_truK (K := K) rfl (pe_c c_law_take hr (by decide) rfl (pa_cons (pv 0) (pa_cons pe_int pa_nil)))) (pe_callTy (call_lstK (K := K)) rfl M.b_list bt_list (pa_cons (pv 1) pa_nil)) (pe_callTy (call_tupK (K := K)) rfl M.b_tuple bt_tuple (pa_cons (pv 1) pa_nil))))), ?_⟩
    obtain ⟨p, F, hh, r, run, rfl, at0, hd, hr', q⟩ := h
    exact st_ret at0 (ev_ifP (et_takeP (n := 2) (ea_cons (ev_var rfl) (ea_cons ev_c ea_nil)) hd (by decide) (by decide)) (fun _ => (ev_lstA (ev_var rfl) (.inr hr')).imp fun v F2 s2 ⟨l, ev, _, hl⟩ => ⟨l, ev, .inl (.of hl)⟩) (fun _ => (ev_tupT (ev_var rfl) hr').toPP fun F2 s2 => ⟨r, rfl, .inr (same_t s2 hr')⟩)) q
end
end PA
namespace PA
open PySem PyProof.Rows L2
section
variable {P : Program} {w : World} {K : PySem.W.Frag} {mg : Str → Option Value} {base : Heap}
abbrev st_law_some : Stmt := top 75
theorem sc_law_some : FnScope ["_law_hand_here", "_law_things", "_law_many", "_law_start", "_law_turned"] ["_law_hand_here", "_law_things", "_law_many"] (defScope st_law_some) := ⟨rfl, rfl, rfl, by decide +kernel, rfl, by decide +kernel, by decide +kernel⟩
theorem cal_law_some (M : Bl mg) {C : Cs} (T : Tx K C.c C.m C.s) (c_law_take : Cal P w K mg base 2 "_law_take" (sp_law_take K)) (D : Df K mg "_law_some" st_law_some ["_law_hand_here", "_law_things", "_law_many"]) : Cal P w K mg base 3 "_law_some" (sp_law_some K) := by
  refine cal_of D sc_law_some (fun vs H Q E h => ?_) (fun f cdv A outer s H vs Q E hr h => ?_)
  · obtain ⟨p, F, hh, t, ns, many, rfl, _⟩ := h
    rfl
  · have sc := sc_law_some
    refine ⟨_, (pss_cons
      (ps_if (pt_cmpR op_le (pe_callB (call_lenK (K := K)) rfl M.b_len bt_len (pa_cons (pv 1) pa_nil)) (pv 2) (nomark _))
      (pss_one
      (ps_ret (pe_callTy (call_lstK (K := K)) rfl M.b_list bt_list (pa_cons (pv 1) pa_nil))))
      pss_nil)
      (pss_cons
      (ps_set (i := 3) sc.nd rfl (Or.inl rfl) (pe_c c_law_take hr (by decide) rfl (pa_cons (pv 0) (pa_cons (pe_callB (call_lenK (K := K)) rfl M.b_len bt_len (pa_cons (pv 1) pa_nil)) pa_nil))))
      (pss_cons
      (ps_set (i := 4) sc.nd rfl (Or.inl rfl) (pe_op op_cat (pe_slice sl_list (pv 1) (po_some (pv 3)) po_none) (pe_slice sl_list (pv 1) po_none (po_some (pv 3)))))
      (pss_one
      (ps_ret (pe_op op_cat (pe_lst (pa_cons (pe_ix (ix_K (K := K)) (pv 1) pe_int (fun _ _ => rfl)) (pa_cons (pe_ix (ix_K (K := K)) (pv 1) (pe_un un_neg pe_int) (fun _ _ => rfl)) pa_nil))) (pe_slice sl_list (pv 4) po_none (po_some (pe_op op_sub (pv 2) pe_int))))))))), ?_⟩
    obtain ⟨p, F, hh, t, ns, many, rfl, at0, hd, ht, m1, m2, hnl, q⟩ := h
    have el : ∀ {σ : L2.St}, σ[1]? = some (some (.ref t)) → Ev p (tCB (rLen K) (tCons (tVar 1) tNil)) σ F (.int (ns.length : Int)) := fun h => (ev_len (ev_var h) (.l ht)).is (by rw [List.length_map])
    refine sq (st_if at0 (et_test (ev_le (el rfl) (ev_var rfl))) (fun hb H1 a1 => ?_) (fun hb H1 a1 => ?_))
    · exact st_ret a1 ((ev_lstA (ev_var rfl) (.inl ht)).imp fun v F2 s2 ⟨l, ev, _, hl⟩ => ⟨l, ns, ev, .of hl, fun y hy => hy⟩) q
    have hgt : ¬ (ns.length : Int) ≤ (many : Int) := of_decide_eq_false hb
    dsimp only [tNext]
    refine sq (st_asg a1 (ev_take (n := ns.length) (ea_cons (ev_var rfl) (ea_cons (el rfl) ea_nil)) hd (by omega) (by omega)) fun v F2 H2 s2 a2 ⟨st, ev, hst⟩ => ?_)
    subst ev
    have ht2 := s2.seq ht
    refine sq (st_asg (P := fun v F3 => ∃ l, v = .ref l ∧ F3 l = some (.lst ((ns.drop st ++ ns.take st).map V.int))) a2 ((ev_cat ((ev_from (ev_var rfl) (ev_var rfl) ht2).imp fun v F2 _ ⟨l, ev, _, e⟩ => ⟨l, ev, e⟩) (fun F1 s1 => (ev_upto (ev_var rfl) (ev_var rfl) (s1.seq ht2)).imp fun v F2 _ ⟨l, ev, _, e⟩ => ⟨l, ev, e⟩) (by rw [List.length_drop, List.length_take, List.length_map]; omega)).imp fun v F2 _ ⟨l, ev, _, e⟩ => ⟨l, ev, by rw [e, List.map_append, List.map_drop, List.map_take]⟩) fun v F3 H3 s3 a3 ⟨tu, ev, htu⟩ => ?_)
    subst ev
    have ht3 := s3.seq ht2
    have h0 : atI (ns.map V.int) 0 = some (.int (nth ns 0)) := at_int (m := 0) (by omega)
    have hl1 : atI (ns.map V.int) (-1) = some (.int (nth ns (ns.length - 1))) := by
      have e := nth_get (xs := ns) (i := ns.length - 1) (by omega)
      have e2 : (ns.map V.int)[ns.length - 1]? = some (.int (nth ns (ns.length - 1))) := by rw [List.getElem?_map, e]; rfl
      have e3 : ixN (ns.map V.int).length (-1) = some (ns.length - 1) := by
        unfold ixN
        rw [List.length_map, if_neg (by decide), if_pos (by omega)]
        congr 1
        omega
      unfold atI
      rw [e3]
      exact e2
    refine st_ret a3 ((ev_cat (xs := [.int (nth ns 0), .int (nth ns (ns.length - 1))]) (ys := ((ns.drop st ++ ns.take st).take (many - 2)).map V.int) ((ev_lst (ea_cons (ev_ix (ev_var rfl) ev_c (.l ht3) h0) (ea_cons (ev_ix (ev_var rfl) (ev_neg ev_c) (.l ht3) hl1) ea_nil)) (show 2 ≤ 100000 by decide)).imp fun v F2 _ ⟨l, ev, _, e⟩ => ⟨l, ev, e⟩) (fun F4 s4 => (ev_upto (k := many - 2) (ev_var rfl) ((ev_sub (ev_var rfl) ev_c).is (congrArg V.int (show (many : Int) - 2 = ((many - 2 : Nat) : Int) by omega))) (.of (s4 _ _ htu))).imp fun v F2 _ ⟨l, ev, _, e⟩ => ⟨l, ev, by rw [e, List.map_take]⟩) (by rw [List.length_map, List.length_take]; show 2 + _ ≤ 100000; omega)).imp fun v F4 s4 ⟨l, ev, _, e⟩ => ⟨l, [nth ns 0, nth ns (ns.length - 1)] ++ (ns.drop st ++ ns.take st).take (many - 2), ev, .of (by rw [e, List.map_append]; rfl), fun y hy => ?_⟩) fun v F4 H4 s4 a4 h => q v F4 H4 (s2.trans (s3.trans s4)) a4 h
    rcases List.mem_append.mp hy with z | z
    · rcases List.mem_cons.mp z with z | z
      · rw [z]; exact nth_mem (by omega)
      · rw [List.mem_singleton.mp z]; exact nth_mem (by omega)
    · rcases List.mem_append.mp (List.mem_of_mem_take z) with z | z
      · exact List.mem_of_mem_drop z
      · exact List.mem_of_mem_take z
end
end PA
namespace PA
open PySem PyProof.Rows L2
section
variable {P : Program} {w : World} {K : PySem.W.Frag} {mg : Str → Option Value} {base : Heap}
def Bd (n j : Nat) (a : Arr) : Prop := (∀ e ∈ a, e.1 < n ∧ e.2 < n) ∧ ∀ v, v < j → Reach a v
theorem Bd.add {n j : Nat} {a : Arr} (h : Bd n j a) {t : Nat} (ht : t < j) (hj : j < n) : Bd n (j + 1) (a ++ [(t, j)]) := by
  refine ⟨fun e he => ?_, fun v hv => ?_⟩
  · rcases List.mem_append.mp he with z | z
    · exact h.1 e z
    · rw [List.mem_singleton.mp z]; exact ⟨by show t < n; omega, hj⟩
  · have up : ∀ e ∈ a, e ∈ a ++ [(t, j)] := fun e he => List.mem_append_left _ he
    by_cases z : v = j
    · subst z
      exact .step ((h.2 t ht).mono up) (List.mem_append_right _ (List.mem_singleton.mpr rfl))
    · exact (h.2 v (by omega)).mono up
theorem Bd.more {n j : Nat} {a : Arr} (h : Bd n j a) {t u : Nat} (ht : t < n) (hu : u < n) : Bd n j (a ++ [(t, u)]) := by
  refine ⟨fun e he => ?_, fun v hv => (h.2 v hv).mono fun e he => List.mem_append_left _ he⟩
  rcases List.mem_append.mp he with z | z
  · exact h.1 e z
  · rw [List.mem_singleton.mp z]; exact ⟨ht, hu⟩
theorem Bd.turn {n j : Nat} {a : Arr} (h : Bd n j a) (k : Nat) : Bd n j (a.drop k ++ a.take k) := by
  have m : ∀ e, e ∈ a.drop k ++ a.take k ↔ e ∈ a := fun e => by
    rw [List.mem_append, or_comm, ← List.mem_append, List.take_append_drop]
  exact ⟨fun e he => h.1 e ((m e).mp he), fun v hv => (h.2 v hv).mono fun e he => (m e).mpr he⟩
def J_lc1 (K : PySem.W.Frag) (p : Wd) (hh cs A : Addr) (most more n : Nat) : LJ := fun i σ' p' F' => ∃ (as : List Addr) (a : Arr) (v6 v7 v8 v9 : Option V), p' = .own p A (.lst (as.map V.ref)) ∧ σ' = [some (.ref hh), some (.int (most : Int)), some (.int (more : Int)), some (.int (n : Int)), some (.ref cs), some (.ref A), v6, v7, v8, v9] ∧ PairsAt K F' as (prs a) ∧ a.length = i ∧ Bd n (i + 1) a
def J_lc2 (K : PySem.W.Frag) (p : Wd) (hh cs A : Addr) (most more n : Nat) : LJ := fun i σ' p' F' => ∃ (as : List Addr) (a : Arr) (v6 v7 v8 v9 : Option V), p' = .own p A (.lst (as.map V.ref)) ∧ σ' = [some (.ref hh), some (.int (most : Int)), some (.int (more : Int)), some (.int (n : Int)), some (.ref cs), some (.ref A), v6, v7, v8, v9] ∧ PairsAt K F' as (prs a) ∧ a.length = n - 1 + i ∧ Bd n n a
theorem pairs_turn {K : PySem.W.Frag} {F : Hp} {as : List Addr} {a : Arr} (h : PairsAt K F as (prs a)) (k : Nat) : PairsAt K F (as.drop k ++ as.take k) (prs (a.drop k ++ a.take k)) := by
  have hl : as.length = a.length := by rw [h.1, prs_len]
  refine ⟨by rw [prs_len, List.length_append, List.length_append, List.length_drop, List.length_drop, List.length_take, List.length_take, hl], fun i b e => ?_⟩
  have e0 : prs (a.drop k ++ a.take k) = (prs a).drop k ++ (prs a).take k := by
    rw [prs_append]
    unfold prs
    rw [List.map_drop, List.map_take]
  rw [e0]
  rw [List.getElem?_append] at e ⊢
  rw [List.length_drop] at e
  rw [List.length_drop, prs_len, ← hl]
  split at e
  · rename_i hi
    rw [List.getElem?_drop] at e
    obtain ⟨pr, e1, e2⟩ := h.2 _ b e
    exact ⟨pr, by rw [if_pos hi, List.getElem?_drop]; exact e1, e2⟩
  · rename_i hi
    rw [List.getElem?_take] at e
    split at e
    · rename_i hk
      obtain ⟨pr, e1, e2⟩ := h.2 _ b e
      exact ⟨pr, by rw [if_neg hi, List.getElem?_take, if_pos hk]; exact e1, e2⟩
    · cases e
abbrev st_law_chart : Stmt := top 59
theorem sc_law_chart : FnScope ["_law_hand_here", "_law_most", "_law_more", "_law_many", "_law_costs_here", "_law_arrows", "_law_head", "_law_step", "_law_tail", "_law_turn"] ["_law_hand_here", "_law_most", "_law_more"] (defScope st_law_chart) := ⟨rfl, rfl, rfl, by decide +kernel, rfl, by decide +kernel, by decide +kernel⟩
theorem cal_law_chart (M : Bl mg) {C : Cs} (T : Tx K C.c C.m C.s) (c_law_costs : Cal P w K mg base 3 "_law_costs" (sp_law_costs K)) (c_law_renumbered : Cal P w K mg base 3 "_law_renumbered" (sp_law_renumbered K)) (c_law_take : Cal P w K mg base 2 "_law_take" (sp_law_take K)) (D : Df K mg "_law_chart" st_law_chart ["_law_hand_here", "_law_most", "_law_more"]) : Cal P w K mg base 4 "_law_chart" (sp_law_chart K) := by
  refine cal_of D sc_law_chart (fun vs H Q E h => ?_) (fun f cdv A outer s H vs Q E hr h => ?_)
  · obtain ⟨p, F, hh, most, more, rfl, _⟩ := h
    rfl
  · have sc := sc_law_chart
    refine ⟨_, (pss_cons
      (ps_set (i := 3) sc.nd rfl (Or.inl rfl) (pe_op op_add pe_int (pe_c c_law_take hr (by decide) rfl (pa_cons (pv 0) (pa_cons (pv 1) pa_nil)))))
      (pss_cons
      (ps_set (i := 4) sc.nd rfl (Or.inl rfl) (pe_c c_law_costs hr (by decide) rfl (pa_cons (pv 0) (pa_cons (pv 3) pa_nil))))
      (pss_cons
      (ps_set (i := 5) sc.nd rfl (Or.inl rfl) (pe_lst pa_nil))
      (pss_cons
      (ps_for PassesOwn.never rfl (pi_range2 rfl M.b_range (pa_cons pe_int (pa_cons (pv 3) pa_nil))) (pg_name (i := 6) sc.nd rfl (Or.inl rfl))
      (pss_cons
      (ps_set (i := 8) sc.nd rfl (Or.inl rfl) (pe_ifExp (pt_truK (K := K) rfl (pe_c c_law_take hr (by decide) rfl (pa_cons (pv 0) (pa_cons pe_int pa_nil)))) (pe_op op_sub (pv 6) pe_int) (pe_c c_law_take hr (by decide) rfl (pa_cons (pv 0) (pa_cons (pv 6) pa_nil)))))
      (pss_one
      (ps_expr (pe_bm PySem.F.plainAttrs_list PySem.F.slot_list_append PySem.F.type_list_append mt_append (pv 5) (pa_cons (pe_tup (pa_cons (pv 8) (pa_cons (pv 6) pa_nil))) pa_nil))))))
      (pss_cons
      (ps_for PassesOwn.never rfl (pi_range1 rfl M.b_range (pa_cons (pe_c c_law_take hr (by decide) rfl (pa_cons (pv 0) (pa_cons (pe_op op_add (pv 2) pe_int) pa_nil))) pa_nil)) (pg_name (i := 7) sc.nd rfl (Or.inl rfl))
      (pss_one
      (ps_expr (pe_bm PySem.F.plainAttrs_list PySem.F.slot_list_append PySem.F.type_list_append mt_append (pv 5) (pa_cons (pe_tup (pa_cons (pe_c c_law_take hr (by decide) rfl (pa_cons (pv 0) (pa_cons (pv 3) pa_nil))) (pa_cons (pe_c c_law_take hr (by decide) rfl (pa_cons (pv 0) (pa_cons (pv 3) pa_nil))) pa_nil))) pa_nil)))))
      (pss_cons
      (ps_if (pt_cmpR op_eq (pe_c c_law_take hr (by decide) rfl (pa_cons (pv 0) (pa_cons pe_int pa_nil))) pe_int (nomark _))
      (pss_cons
      (ps_set (i := 9) sc.nd rfl (Or.inl rfl) (pe_c c_law_take hr (by decide) rfl (pa_cons (pv 0) (pa_cons (pe_op op_add (pe_callB (call_lenK (K := K)) rfl M.b_len bt_len (pa_cons (pv 5) pa_nil)) pe_int) pa_nil))))
      (pss_one
      (ps_set (i := 5) sc.nd rfl (Or.inl rfl) (pe_op op_cat (pe_slice sl_list (pv 5) (po_some (pv 9)) po_none) (pe_slice sl_list (pv 5) po_none (po_some (pv 9)))))))
      pss_nil)
      (pss_one
      (ps_ret (pe_tup (pa_cons (pe_callTy (call_tupK (K := K)) rfl M.b_tuple bt_tuple (pa_cons (pv 4) pa_nil)) (pa_cons (pe_callTy (call_tupK (K := K)) rfl M.b_tuple bt_tuple (pa_cons (pe_c c_law_renumbered hr (by decide) rfl (pa_cons (pv 0) (pa_cons (pv 3) (pa_cons (pv 5) pa_nil)))) pa_nil)) pa_nil))))))))))), ?_⟩
    obtain ⟨p, F, hh, most, more, rfl, at0, hd, m1, m2, m3, q⟩ := h
    refine sq (st_asg (P := fun v _ => ∃ n : Nat, v = .int (n : Int) ∧ 1 ≤ n ∧ n ≤ most) at0 (ev_opP (Pb := fun _ y _ => ∃ k : Nat, y = .int (k : Int) ∧ k < most) (Ev.toP ev_c) (fun x F1 s _ => ev_take (n := most) (ea_cons (ev_var rfl) (ea_cons (ev_var rfl) ea_nil)) (hd.mono s) m1 (by omega)) fun x y F1 F2 H2 s1 ex s2 ⟨k, ey, hk⟩ a2 Q' k' => ⟨1, (k : Int), ex, ey, k' _ F2 H2 (Same.refl _) a2 ⟨k + 1, congrArg V.int (show (1 : Int) + (k : Int) = ((k + 1 : Nat) : Int) by omega), by omega, by omega⟩⟩) fun v F1 H1 s1 a1 ⟨n, ev, n1, n2⟩ => ?_)
    subst ev
    refine sq (st_asg (P := fun v F2 => ∃ q cs, v = .ref q ∧ IL K F2 q cs ∧ cs.length = n ∧ ∀ x ∈ cs, 0 ≤ x ∧ x ≤ 1000000000) a1 (ev_call (ea_cons (ev_var rfl) (ea_cons (ev_var rfl) ea_nil)) fun F2 H s2 a2 Q k => ⟨p, F2, hh, n, rfl, a2, hd.mono (s1.trans s2), by omega, k⟩) fun v F2 H2 s2 a2 ⟨cs, cl, ev, hcs, hcl, hc0⟩ => ?_)
    subst ev
    have s12 := s1.trans s2
    refine sq (st_asgM a2 (ev_lst ea_nil (show 0 ≤ 100000 by decide)) fun A H3 nA a3 => ?_)
    refine sq (st_forR2 (lo := 1) (hi := n) (J_lc1 K p hh cs A most more n) a3 (ea_cons ev_c (ea_cons (ev_var rfl) ea_nil)) ⟨by omega, by omega⟩ ⟨[], [], none, none, none, none, rfl, rfl, ⟨rfl, fun i b e => by cases e⟩, rfl, fun e he => (by cases he), fun v hv => (by (obtain rfl : v = 0 := by omega); exact .zero)⟩ ?_ ?_)
    · rintro i σ' p' F3 H4 hi s3 a4 ⟨as, a, v6, v7, v8, v9, rfl, rfl, hp, hl, hb⟩
      have hd3 := (hd.mono (s12.trans s3)).own (q := A) (o := .lst (as.map V.ref))
      refine sq (st_asg (P := fun v _ => ∃ t : Nat, v = .int (t : Int) ∧ t < 1 + i) a4 (ev_ifP (et_takeP (n := 3) (ea_cons (ev_var rfl) (ea_cons ev_c ea_nil)) hd3 (by decide) (by decide)) (fun _ => (ev_sub (ev_var rfl) ev_c).toPP fun F5 _ => ⟨i, congrArg V.int (show ((1 + i : Nat) : Int) - 1 = (i : Int) by omega), by omega⟩) (fun _ => ev_take (n := 1 + i) (ea_cons (ev_var rfl) (ea_cons (ev_var rfl) ea_nil)) hd3 (by omega) (by omega))) fun v F4 H5 s4 a5 ⟨t, ev, ht⟩ => ?_)
      subst ev
      have hal : as.length = i := by rw [hp.1, prs_len, hl]
      refine st_app a5 (ev_var rfl) (ev_tup (ea_cons (ev_var rfl) (ea_cons (ev_var rfl) ea_nil)) (show 2 ≤ 100000 by decide)) (by rw [List.length_map]; omega) fun v F5 H6 s5 a6 ⟨b, ev, _, hb2⟩ => ?_
      subst ev
      refine ⟨_, F5, s3.trans (s4.trans s5), a6, as ++ [b], a ++ [(t, 1 + i)], _, _, _, _, by rw [List.map_append]; rfl, rfl, ?_, by rw [List.length_append, hl]; rfl, ?_⟩
      · rw [prs_append]
        exact pairs_snoc (hp.mono (s4.trans s5)) (.of hb2)
      · have e : i + 1 = 1 + i := Nat.add_comm ..
        rw [e] at hb ⊢
        exact hb.add ht hi
    rintro σ' p' F3 H4 s3 a4 ⟨as, a, v6, v7, v8, v9, rfl, rfl, hp, hl, hb⟩
    rw [show n - 1 + 1 = n by omega] at hb
    refine sq (st_forR1P (Pn := fun k _ => k ≤ more) (fun _ => J_lc2 K p hh cs A most more n) a4 ((eap_one (ev_take (n := more + 1) (ea_cons (ev_var rfl) (ea_cons ((ev_add (ev_var rfl) ev_c).is (by rfl)) ea_nil)) (hd.mono (s12.trans s3)).own (by omega) (by omega))).imp fun vs F1 _ ⟨x, ev, k, ex, hk⟩ => ⟨k, by rw [ev, ex], by omega, by omega⟩) (fun k F4 s4 hk => ⟨as, a, v6, v7, v8, v9, rfl, rfl, hp.mono s4, hl, hb⟩) ?_ ?_)
    · rintro k F4 i σ' p' F5 H5 hi s4 hk s5 a5 ⟨as, a, v6, v7, v8, v9, rfl, rfl, hp, hl, hb⟩
      have hd5 := (hd.mono (s12.trans (s3.trans (s4.trans s5)))).own (q := A) (o := .lst (as.map V.ref))
      have hal : as.length = n - 1 + i := by rw [hp.1, prs_len, hl]
      refine st_app a5 (ev_var rfl) (ev_tupP (Pv := fun vs _ => ∃ t u : Nat, vs = [.int (t : Int), .int (u : Int)] ∧ t < n ∧ u < n) ((eap_cons (Pr := fun x r _ => (∃ t : Nat, x = .int (t : Int) ∧ t < n) ∧ ∃ u : Nat, r = [.int (u : Int)] ∧ u < n) (ev_take (n := n) (ea_cons (ev_var rfl) (ea_cons (ev_var rfl) ea_nil)) hd5 n1 (by omega)) fun x F6 s6 hx => (eap_one (ev_take (n := n) (ea_cons (ev_var rfl) (ea_cons (ev_var rfl) ea_nil)) (hd5.mono s6) n1 (by omega))).imp fun vs F7 _ ⟨y, ev, u, ey, hu⟩ => ⟨hx, u, by rw [ev, ey], hu⟩).imp fun vs F6 _ ⟨x, r, ev, ⟨t, ex, ht⟩, u, er, hu⟩ => ⟨t, u, by rw [ev, ex, er], ht, hu⟩) fun vs F2 ⟨t, u, ev, _⟩ => by rw [ev]; show 2 ≤ 100000; decide) (by rw [List.length_map]; omega) fun v F6 H6 s6 a6 ⟨b, vs, F7, ev, _, n7, ef, s7, t, u, evs, ht, hu⟩ => ?_
      subst ev evs
      refine ⟨_, F6, s5.trans s6, a6, as ++ [b], a ++ [(t, u)], _, _, _, _, by rw [List.map_append]; rfl, rfl, ?_, by rw [List.length_append, hl]; rfl, hb.more ht hu⟩
      rw [prs_append]
      exact pairs_snoc (hp.mono s6) (.of (by rw [ef]; exact upd_same))
    rintro k F4 σ' p' F5 H5 s4 hk s5 a5 ⟨as, a, v6, v7, v8, v9, rfl, rfl, hp, hl, hb⟩
    have sg := a5.give_same
    have a6 := a5.give
    have hA : (upd F5 A (.lst (as.map V.ref))) A = some (.lst (as.map V.ref)) := upd_same
    have hp6 := hp.mono sg
    generalize upd F5 A (.lst (as.map V.ref)) = F6 at a6 sg hA hp6
    have s06 := s12.trans (s3.trans (s4.trans (s5.trans sg)))
    have s26 := s3.trans (s4.trans (s5.trans sg))
    have hal : as.length = a.length := by rw [hp.1, prs_len]
    -- the end, of any arrows
    dsimp only
    refine st_sq2 (fun σ H => ∃ (A' : Addr) (as : List Addr) (a : Arr) (F7 : Hp) (v6 v7 v8 v9 : Option V), σ = [some (.ref hh), some (.int (most : Int)), some (.int (more : Int)), some (.int (n : Int)), some (.ref cs), some (.ref A'), v6, v7, v8, v9] ∧ Same F6 F7 ∧ At p F7 H ∧ F7 A' = some (.lst (as.map V.ref)) ∧ PairsAt K F7 as (prs a) ∧ a.length ≤ 20 ∧ Bd n n a) ?_ fun tail => ?_
    · rintro σ H6 ⟨A', as, a, F7, v6, v7, v8, v9, rfl, s7, a7, hA', hp7, hal2, hb7⟩
      have s07 := s06.trans s7
      have s27 := s26.trans s7
      refine st_ret a7 (ev_tupP (Pv := fun vs F8 => ∃ ca aa a', vs = [.ref ca, .ref aa] ∧ IT K F8 ca cl ∧ AT K F8 aa a' ∧ Ch cl a' ∧ a'.length ≤ 20) ((eap_cons (Pr := fun x r F8 => ∃ ca, x = .ref ca ∧ IT K F8 ca cl ∧ ∃ aa a', r = [.ref aa] ∧ AT K F8 aa a' ∧ Ch cl a' ∧ a'.length ≤ 20) (ev_tupL (ev_var rfl) (s27.seq hcs)) fun x F8 s8 ⟨ca, ex, _, hca⟩ => (eap_one (ev_tupM (Pt := fun xs F9 => ∃ as a', xs = as.map V.ref ∧ PairsAt K F9 as (prs a') ∧ a'.length = a.length ∧ ArOk n a') (ev_call (ea_cons (ev_var rfl) (ea_cons (ev_var rfl) (ea_cons (ev_var rfl) ea_nil))) fun F9 H9 s9 a9 Q' k' => ⟨p, F9, hh, A', n, a, rfl, a9, hd.mono (s07.trans (s8.trans s9)), ⟨as, .of ((s8.trans s9) _ _ hA'), hp7.mono (s8.trans s9)⟩, n1, by omega, by omega, ⟨hb7.1, hb7.2⟩, fun v F10 H10 s10 a10 ⟨q2, a', ev, ⟨as', h1, h2⟩, h3, h4⟩ => k' v F10 H10 s10 a10 ⟨q2, _, ev, h1, as', a', rfl, h2, h3, h4⟩⟩))).imp fun vs F9 s9 ⟨y, ev, t, xs, F10, ey, _, n10, s10, ef, as', a', exs, h2, h3, h4⟩ => ?_).imp fun vs F9 s9 ⟨x, r, ev, ca, ex, hca, aa, a', er, h⟩ => ⟨ca, aa, a', by rw [ev, ex, er], hca, h⟩) fun vs F2 ⟨ca, aa, a', ev, _⟩ => by rw [ev]; show 2 ≤ 100000; decide) fun v F8 H8 s8 a8 ⟨t, vs, F9, ev, _, n9, ef, s9, ca, aa, a', evs, h1, h2, h3, h4⟩ => ?_
      · subst ex ef exs
        have s11 := s10.trans (same_new (o := .tup (as'.map V.ref)) n10)
        exact ⟨ca, rfl, .of (s9 _ _ hca), t, a', by rw [ev, ey], ⟨as', .of upd_same, h2.mono (same_new n10)⟩, ⟨by omega, by omega, hc0, by omega, fun e he => by rw [hcl]; exact h4.ends e he, fun v hv => h4.reach v (by omega)⟩, by omega⟩
      · subst ef evs
        exact q v _ H8 (s07.trans s8) a8 ⟨t, ca, aa, cl, a', ev, .of upd_same, h1.mono (same_new n9), h2.mono (same_new n9), h3, h4⟩
    · refine st_ifP a6 (et_takeEq (n := 3) (ea_cons (ev_var rfl) (ea_cons ev_c ea_nil)) (hd.mono s06) (by decide) (by decide) fun _ => rfl) (fun _ H6 a7 => ?_) (fun _ H6 a7 => tail _ _ ⟨A, as, a, F6, _, _, _, _, rfl, Same.refl _, a7, hA, hp6, by omega, hb⟩)
      refine sq (st_asg a7 (ev_take (n := a.length + 1) (ea_cons (ev_var rfl) (ea_cons ((ev_add (ev_len (ev_var rfl) (.lst hA)) ev_c).is (by rw [List.length_map, hal]; rfl)) ea_nil)) (hd.mono s06) (by omega) (by omega)) fun v F7 H7 s7 a8 ⟨tn, ev, htn⟩ => ?_)
      subst ev
      have hA7 := s7 _ _ hA
      refine st_asg (P := fun v F2 => ∃ l, v = .ref l ∧ F2 l = some (.lst ((as.drop tn ++ as.take tn).map V.ref))) a8 ((ev_cat ((ev_from (ev_var rfl) (ev_var rfl) (.of hA7)).imp fun v F2 _ ⟨l, ev, _, e⟩ => ⟨l, ev, e⟩) (fun F1 s1 => (ev_upto (ev_var rfl) (ev_var rfl) (.of (s1 _ _ hA7))).imp fun v F2 _ ⟨l, ev, _, e⟩ => ⟨l, ev, e⟩) (by rw [List.length_drop, List.length_take, List.length_map]; omega)).imp fun v F2 _ ⟨l, ev, _, e⟩ => ⟨l, ev, by rw [e, List.map_append, List.map_drop, List.map_take]⟩) fun v F8 H8 s8 a9 ⟨l, ev, hl8⟩ => ?_
      subst ev
      exact tail _ _ ⟨l, as.drop tn ++ as.take tn, a.drop tn ++ a.take tn, F8, _, _, _, _, rfl, s7.trans s8, a9, hl8, pairs_turn (hp6.mono (s7.trans s8)) tn, by rw [List.length_append, List.length_drop, List.length_take]; omega, hb.turn tn⟩
end
end PA
namespace PA
open PySem PyProof.Rows L2
section
variable {P : Program} {w : World} {K : PySem.W.Frag} {mg : Str → Option Value} {base : Heap}
def J_le (p : Wd) (hh ca aa Lt : Addr) (a : Arr) (dense : Int) (st : Nat) : LJ := fun i σ' p' _ => ∃ (lot : List Int) (v6 v7 : Option V), p' = .own p Lt (.lst (lot.map V.int)) ∧ σ' = [some (.ref hh), some (.ref ca), some (.ref aa), some (.int dense), some (.ref Lt), some (.int (st : Int)), v6, v7] ∧ lot.length ≤ a.length + i
abbrev st_law_even_lot : Stmt := top 69
theorem sc_law_even_lot : FnScope ["_law_hand_here", "_law_costs_here", "_law_arrows", "_law_dense", "_law_lot_here", "_law_start", "_law_step", "_law_arrow"] ["_law_hand_here", "_law_costs_here", "_law_arrows", "_law_dense"] (defScope st_law_even_lot) := ⟨rfl, rfl, rfl, by decide +kernel, rfl, by decide +kernel, by decide +kernel⟩
theorem cal_law_even_lot (M : Bl mg) {C : Cs} (T : Tx K C.c C.m C.s) (c_law_least : Cal P w K mg base 1 "_law_least" (sp_law_least K)) (c_law_lot : Cal P w K mg base 3 "_law_lot" (sp_law_lot K)) (c_law_take : Cal P w K mg base 2 "_law_take" (sp_law_take K)) (D : Df K mg "_law_even_lot" st_law_even_lot ["_law_hand_here", "_law_costs_here", "_law_arrows", "_law_dense"]) : Cal P w K mg base 4 "_law_even_lot" (sp_law_even_lot K) := by
  refine cal_of D sc_law_even_lot (fun vs H Q E h => ?_) (fun f cdv A outer s H vs Q E hr h => ?_)
  · obtain ⟨p, F, hh, ca, aa, c, a, dense, rfl, _⟩ := h
    rfl
  · have sc := sc_law_even_lot
    refine ⟨_, (pss_cons
      (ps_set (i := 4) sc.nd rfl (Or.inl rfl) (pe_callTy (call_lstK (K := K)) rfl M.b_list bt_list (pa_cons (pe_c c_law_lot hr (by decide) rfl (pa_cons (pv 0) (pa_cons (pv 2) (pa_cons (pv 3) pa_nil)))) pa_nil)))
      (pss_cons
      (ps_set (i := 5) sc.nd rfl (Or.inl rfl) (pe_c c_law_take hr (by decide) rfl (pa_cons (pv 0) (pa_cons (pe_op op_add (pe_callB (call_lenK (K := K)) rfl M.b_len bt_len (pa_cons (pv 2) pa_nil)) pe_int) pa_nil))))
      (pss_cons
      (ps_for PassesOwn.never rfl (pi_range1 rfl M.b_range (pa_cons (pe_callB (call_lenK (K := K)) rfl M.b_len bt_len (pa_cons (pv 2) pa_nil)) pa_nil)) (pg_name (i := 6) sc.nd rfl (Or.inl rfl))
      (pss_cons
      (ps_if (pt_cmpR o_notN (pe_c c_law_least hr (by decide) rfl (pa_cons (pv 1) (pa_cons (pv 2) (pa_cons (pv 4) (pa_cons (pv 1) pa_nil))))) pe_non (nomark _))
      (pss_one
      ps_break)
      pss_nil)
      (pss_cons
      (ps_set (i := 7) sc.nd rfl (Or.inl rfl) (pe_op op_mod (pe_callTy call_intK rfl M.b_int bt_int (pa_cons (pe_op op_add (pv 5) (pv 6)) pa_nil)) (pe_callB (call_lenK (K := K)) rfl M.b_len bt_len (pa_cons (pv 2) pa_nil))))
      (pss_one
      (ps_if (pt_cmpR (op_niK (K := K)) (pv 7) (pv 4) (by rfl))
      (pss_one
      (ps_expr (pe_bm PySem.F.plainAttrs_list PySem.F.slot_list_append PySem.F.type_list_append mt_append (pv 4) (pa_cons (pv 7) pa_nil))))
      pss_nil)))))
      (pss_one
      (ps_ret (pe_callTy (call_tupK (K := K)) rfl M.b_tuple bt_tuple (pa_cons (pe_callB (cr_sortK (K := K)) rfl M.b_sorted bt_sorted (pa_cons (pv 4) pa_nil)) pa_nil))))))), ?_⟩
    obtain ⟨p, F, hh, ca, aa, c, a, dense, rfl, at0, hd, hC, hca, haa, hal, q⟩ := h
    obtain ⟨as, ha1, ha2⟩ := haa.len
    have fin : ∀ {D : Ends} {σ : L2.St} {F1 H1 : Hp} {Lt : Addr} {lot : List Int}, D.rt = Q → Same F F1 → At (.own p Lt (.lst (lot.map V.int))) F1 H1 → lot.length ≤ 40 → σ[4]? = some (some (.ref Lt)) → tRet (tCB (rTupOf K) (tCons (tCB (rSorted K) (tCons (tVar 4) tNil)) tNil)) D σ H1 := fun {D σ F1 H1 Lt lot} hD s1 a1 hlen hL => st_ret a1.give (ev_tupM (Pt := fun xs _ => ∃ ns : List Int, xs = ns.map V.int) (ev_cb (ea_cons (ev_var hL) ea_nil) fun F2 H2 s2 a2 Q' k => ⟨Lt, lot, rfl, a2.l (.of (s2 _ _ upd_same)), by omega, fun ns' l _ _ hl => k _ _ _ (same_new (a2.free hl)) (a2.new hl) ⟨l, _, rfl, .of upd_same, ns', rfl⟩⟩)) fun v F2 H2 s2 a2 ⟨t, xs, F3, ev, _, n3, s3, ef, ns, ex⟩ => by
      rw [hD]
      exact q v F2 H2 (s1.trans (a1.give_same.trans s2)) a2 ⟨t, ns, ev, by rw [ef, ex]; exact .of upd_same⟩
    refine sq (st_asgLc (R := fun xs _ => ∃ lot : List Int, xs = lot.map V.int ∧ lot.length ≤ a.length) at0 (ev_cbP (eap_one (ev_call (P := fun v F2 => ∃ q lot, v = .ref q ∧ IT K F2 q lot ∧ lot.length ≤ a.length) (ea_cons (ev_var rfl) (ea_cons (ev_var rfl) (ea_cons (ev_var rfl) ea_nil))) fun F1 H s1 a1 Q k => ⟨p, F1, hh, aa, a, dense, rfl, a1, hd.mono s1, haa.mono s1, by omega, k⟩)) fun vs F1 H1 s1 ⟨x, ev, t, lot, ex, ht, hl⟩ a1 Q' k => ?_) fun Lt xs F1 H1 s1 nL a1 ⟨lot, ex, hlot⟩ => ?_)
    · subst ev ex
      exact ⟨t, _, rfl, .inr (a1.t ht), fun l hl2 => k _ _ _ (same_new (a1.free hl2)) (a1.new hl2) ⟨l, _, F1, rfl, s1.free (a1.free hl2), a1.free hl2, rfl, s1, lot, rfl, hl⟩⟩
    subst ex
    refine sq (st_asg a1 (ev_take (n := a.length + 1) (ea_cons (ev_var rfl) (ea_cons ((ev_add (ev_len (ev_var rfl) (.t (same_t s1 ha1))) ev_c).is (by rw [ha2]; rfl)) ea_nil)) (hd.mono s1).own (by omega) (by omega)) fun v F2 H2 s2 a2 ⟨st, ev, _⟩ => ?_)
    subst ev
    have s12 := s1.trans s2
    refine sq (st_forR1 (n := a.length) (J_le p hh ca aa Lt a dense st) a2 (ea_cons ((ev_len (ev_var rfl) (.t (same_t s12 ha1))).is (by rw [ha2])) ea_nil) (by omega) ⟨lot, none, none, rfl, rfl, by omega⟩ ?_ ?_)
    · rintro i σ' p' F3 H3 hi s3 a3 ⟨lot, v6, v7, rfl, rfl, hl⟩
      have s13 := s12.trans s3
      refine sq (st_ifP (Pt := fun _ => True) a3 (et_testP (ev_opP (P := fun v _ => ∃ b, v = .bl b ∧ True) (Pb := fun _ y _ => y = .non) (ev_call (P := fun _ _ => True) (ea_cons (ev_var rfl) (ea_cons (ev_var rfl) (ea_cons (ev_var rfl) (ea_cons (ev_var rfl) ea_nil)))) fun F4 H4 s4 a4 Q' k => ⟨_, F4, ca, aa, Lt, ca, c, a, lot, c, rfl, a4, hC, same_t (s13.trans s4) hca, haa.mono (s13.trans s4), .own, .t (same_t (s13.trans s4) hca), rfl, fun x hx => by have := (hC.cost x hx).2; omega, fun v F5 H5 s5 a5 _ => k v F5 H5 s5 a5 True.intro⟩) (fun x F4 s4 _ => Ev.toP ev_c) fun x y F4 F5 H5 s4 _ s5 ey a5 Q' k => ⟨ey, k _ F5 H5 (Same.refl _) a5 ⟨_, rfl, True.intro⟩⟩)) (fun _ H4 a4 => ?_) (fun _ H4 a4 => ?_))
      · exact st_break (fin (by rfl) s13 a4 (by omega) (by rfl))
      · dsimp only [tNext]
        refine sq (st_asgV a4 (ev_mod (ev_int (ev_add (ev_var rfl) (ev_var rfl))) ((ev_len (ev_var rfl) (.t (same_t s13 ha1))).is (by rw [ha2])) (by omega)) fun H5 a5 => ?_)
        refine st_if a5 (et_test (ev_ni (ev_var rfl) (ev_var rfl) .own)) (fun _ H6 a6 => ?_) (fun _ H6 a6 => ⟨_, F3, s3, a6, lot, _, _, rfl, rfl, by omega⟩)
        refine st_app a6 (ev_var rfl) (Ev.toP (ev_var rfl)) (by rw [List.length_map]; omega) fun v F4 H7 s4 a7 ev => ?_
        subst ev
        exact ⟨_, F4, s3.trans s4, a7, lot ++ [_], _, _, by rw [List.map_append]; rfl, rfl, by rw [List.length_append]; simp; omega⟩
    · rintro σ' p' F3 H3 s3 a3 ⟨lot, v6, v7, rfl, rfl, hl⟩
      exact fin (by rfl) (s12.trans s3) a3 (by omega) (by rfl)
end
end PA
namespace PA
open PySem PyProof.Rows L2
section
variable {P : Program} {w : World} {K : PySem.W.Frag} {mg : Str → Option Value} {base : Heap}
theorem lead_mt {c : List Int} {a : Arr} (C : Ch c a) {L g : List Int} (l : Lead c c a L) (gl : g.length = a.length) (gk : ∀ k, k < a.length → nth g k = nth L (ar a k).2 - nth L (ar a k).1 + nth c (ar a k).1) : Mt c a L g := by
  refine ⟨l.len, gl, gk, fun k hk => ?_, l.low, fun v hv => ?_⟩
  · have he := C.ar hk
    have h1 := l.arr k hk
    have h2 := gk k hk
    have h3 := l.hi _ he.2
    have h4 := l.low _ he.1
    omega
  · have h1 := l.low v hv
    have h2 := l.hi v hv
    have h3 := C.c0 hv
    omega
abbrev mslots (hh ca aa lt fa : Addr) (dense : Int) (v6 v7 : Option V) : L2.St := [some (.ref hh), some (.ref ca), some (.ref aa), some (.int dense), some (.ref lt), some (.ref fa), v6, v7]
abbrev st_law_meter : Stmt := top 70
theorem sc_law_meter : FnScope ["_law_hand_here", "_law_costs_here", "_law_arrows", "_law_dense", "_law_lot_here", "_law_floors", "_law_leads", "_law_cost"] ["_law_hand_here", "_law_costs_here", "_law_arrows", "_law_dense"] (defScope st_law_meter) := ⟨rfl, rfl, rfl, by decide +kernel, rfl, by decide +kernel, by decide +kernel⟩
theorem cal_law_meter (M : Bl mg) {C : Cs} (T : Tx K C.c C.m C.s) (c_law_charges : Cal P w K mg base 1 "_law_charges" (sp_law_charges K)) (c_law_even_lot : Cal P w K mg base 4 "_law_even_lot" (sp_law_even_lot K)) (c_law_least : Cal P w K mg base 1 "_law_least" (sp_law_least K)) (c_law_take : Cal P w K mg base 2 "_law_take" (sp_law_take K)) (D : Df K mg "_law_meter" st_law_meter ["_law_hand_here", "_law_costs_here", "_law_arrows", "_law_dense"]) : Cal P w K mg base 5 "_law_meter" (sp_law_meter K) := by
  refine cal_of D sc_law_meter (fun vs H Q E h => ?_) (fun f cdv A outer s H vs Q E hr h => ?_)
  · obtain ⟨p, F, hh, ca, aa, c, a, dense, rfl, _⟩ := h
    rfl
  · have sc := sc_law_meter
    refine ⟨_, (pss_cons
      (ps_set (i := 4) sc.nd rfl (Or.inl rfl) (pe_c c_law_even_lot hr (by decide) rfl (pa_cons (pv 0) (pa_cons (pv 1) (pa_cons (pv 2) (pa_cons (pv 3) pa_nil))))))
      (pss_cons
      (ps_set (i := 5) sc.nd rfl (Or.inl rfl) (pe_callTy (call_lstK (K := K)) rfl M.b_list bt_list (pa_cons (pv 1) pa_nil)))
      (pss_cons
      (ps_if (pt_truK (K := K) rfl (pe_c c_law_take hr (by decide) rfl (pa_cons (pv 0) (pa_cons pe_int pa_nil))))
      (pss_one
      (ps_setLc (i := 5) (own := [("_law_cost", 7)]) rfl sc.nd rfl rfl (sw_true rfl rfl rfl (by kernel_rfl)) (pi_tupK (K := K) rfl (pv 1)) (blkOk_by (by kernel_rfl)) (fun _ _ _ _ _ => (pg_name (i := 7) sc.nd rfl (Or.inl rfl))) (fun _ _ _ _ _ => pts_nil) (fun _ _ _ _ _ => (pe_op op_add (pv 7) (pe_c c_law_take hr (by decide) rfl (pa_cons (pv 0) (pa_cons pe_int pa_nil)))))))
      pss_nil)
      (pss_cons
      (ps_set (i := 6) sc.nd rfl (Or.inl rfl) (pe_c c_law_least hr (by decide) rfl (pa_cons (pv 1) (pa_cons (pv 2) (pa_cons (pv 4) (pa_cons (pv 5) pa_nil))))))
      (pss_cons
      (ps_if (pt_cmpR o_isN (pv 6) pe_non (nomark _))
      (pss_one
      (ps_set (i := 6) sc.nd rfl (Or.inl rfl) (pe_c c_law_least hr (by decide) rfl (pa_cons (pv 1) (pa_cons (pv 2) (pa_cons (pe_tupRg rfl rfl M.b_tuple (prg_1 rfl M.b_range (pe_callB (call_lenK (K := K)) rfl M.b_len bt_len (pa_cons (pv 2) pa_nil)))) (pa_cons (pv 5) pa_nil)))))))
      pss_nil)
      (pss_one
      (ps_ret (pe_tup (pa_cons (pe_ix (ix_K (K := K)) (pv 6) pe_int (fun _ _ => rfl)) (pa_cons (pe_c c_law_charges hr (by decide) rfl (pa_cons (pv 1) (pa_cons (pv 2) (pa_cons (pv 6) pa_nil)))) (pa_cons (pe_callTy (call_tupK (K := K)) rfl M.b_tuple bt_tuple (pa_cons (pv 6) pa_nil)) pa_nil))))))))))), ?_⟩
    obtain ⟨p, F, hh, ca, aa, c, a, dense, rfl, at0, hd, hC, hca, haa, hal, q⟩ := h
    have n1 := hC.n1
    have n2 := hC.n2
    obtain ⟨as, ha1, ha2⟩ := haa.len
    refine sq (st_asg (P := fun v F2 => ∃ q lot, v = .ref q ∧ IT K F2 q lot) at0 (ev_call (ea_cons (ev_var rfl) (ea_cons (ev_var rfl) (ea_cons (ev_var rfl) (ea_cons (ev_var rfl) ea_nil)))) fun F1 H s1 a1 Q k => ⟨p, F1, hh, ca, aa, c, a, dense, rfl, a1, hd.mono s1, hC, same_t s1 hca, haa.mono s1, hal, k⟩) fun v F1 H1 s1 a1 ⟨lt, lot, ev, hlt⟩ => ?_)
    subst ev
    refine sq (st_asg a1 (ev_lstA (ev_var rfl) (.inr (same_t s1 hca))) fun v F2 H2 s2 a2 ⟨fa, ev, _, hfa⟩ => ?_)
    subst ev
    have s12 := s1.trans s2
    have c9 : ∀ x ∈ c, x ≤ 1000000100 := fun x hx => by have := (hC.cost x hx).2; omega
    dsimp only
    refine st_sq2 (fun σ H => ∃ (fa : Addr) (fl : List Int) (F3 : Hp) (v7 : Option V), σ = mslots hh ca aa lt fa dense none v7 ∧ Same F2 F3 ∧ At p F3 H ∧ IL K F3 fa fl ∧ fl.length = c.length ∧ ∀ x ∈ fl, x ≤ 1000000100) ?_ fun tail => ?_
    · rintro σ H3 ⟨fa, fl, F3, v7, rfl, s3, a3, hfl, hfll, hfb⟩
      have s13 := s12.trans s3
      refine sq (st_asg (P := fun v F4 => (v = .non ∧ ¬ ∀ k : Nat, k < a.length → (k : Int) ∈ lot) ∨ ∃ q L, v = .ref q ∧ IL K F4 q L ∧ Lead c c a L) a3 (ev_call (ea_cons (ev_var rfl) (ea_cons (ev_var rfl) (ea_cons (ev_var rfl) (ea_cons (ev_var rfl) ea_nil)))) fun F4 H s4 a4 Q k => ⟨p, F4, ca, aa, lt, fa, c, a, lot, fl, rfl, a4, hC, same_t (s13.trans s4) hca, haa.mono (s13.trans s4), .t (same_t ((s2.trans s3).trans s4) hlt), .l (s4.seq hfl), hfll, hfb, k⟩) fun v F4 H4 s4 a4 hv => ?_)
      have s14 := s13.trans s4
      dsimp only
      refine st_sq2 (fun σ H => ∃ (la : Addr) (L : List Int) (F5 : Hp), σ = mslots hh ca aa lt fa dense (some (.ref la)) v7 ∧ Same F4 F5 ∧ At p F5 H ∧ IL K F5 la L ∧ Lead c c a L) ?_ fun tail2 => ?_
      · rintro σ H5 ⟨la, L, F5, rfl, s5, a5, hL, hld⟩
        have s15 := s14.trans s5
        have hL0 : atI (L.map V.int) 0 = some (.int (nth L 0)) := at_int (m := 0) (by rw [hld.len]; exact n1)
        refine st_ret a5 (ev_tupP (Pv := fun vs F8 => ∃ ga lt g, vs = [.int (nth L 0), .ref ga, .ref lt] ∧ IT K F8 ga g ∧ g.length = a.length ∧ ∀ k, k < a.length → nth g k = nth L (ar a k).2 - nth L (ar a k).1 + nth c (ar a k).1) ((eap_consV (ev_ix (ev_var rfl) ev_c (.l hL) hL0) (eap_cons (P := fun v F2 => ∃ q g, v = .ref q ∧ IT K F2 q g ∧ g.length = a.length ∧ ∀ k, k < a.length → nth g k = nth L (ar a k).2 - nth L (ar a k).1 + nth c (ar a k).1) (Pr := fun x r F2 => (∃ q g, x = .ref q ∧ IT K F2 q g ∧ g.length = a.length ∧ ∀ k, k < a.length → nth g k = nth L (ar a k).2 - nth L (ar a k).1 + nth c (ar a k).1) ∧ ∃ lt, r = [.ref lt]) (ev_call (ea_cons (ev_var rfl) (ea_cons (ev_var rfl) (ea_cons (ev_var rfl) ea_nil))) fun F6 H s6 a6 Q k => ⟨p, F6, ca, aa, la, c, a, L, rfl, a6, hC, same_t (s15.trans s6) hca, haa.mono (s15.trans s6), s6.seq hL, hld.len, k⟩) fun x F6 s6 ⟨ga, g, ex, hg, hg2⟩ => (eap_one (ev_tupL (ev_var rfl) (s6.seq hL))).imp fun vs F7 s7 ⟨y, ev, lt, ey, _⟩ => ⟨⟨ga, g, ex, hg.mono s7, hg2⟩, lt, by rw [ev, ey]⟩)).imp fun vs F7 s7 ⟨r, ev, x, r2, er, ⟨ga, g, ex, hg, hg2⟩, lt, er2⟩ => ⟨ga, lt, g, by rw [ev, er, ex, er2], hg, hg2⟩) fun vs F2 ⟨ga, lt, g, ev, _⟩ => by rw [ev]; show 3 ≤ 100000; decide) fun v F8 H8 s8 a8 ⟨t, vs, F9, ev, _, n9, ef, s9, ga, lt', g, evs, hg, hgl, hgk⟩ => ?_
        subst ef evs
        exact q v _ H8 (s15.trans s8) a8 ⟨t, ga, lt', L, g, ev, .of upd_same, hg.mono (same_new n9), lead_mt hC hld hgl hgk⟩
      · rcases hv with ⟨rfl, nf⟩ | ⟨la, L, rfl, hL, hld⟩
        · refine st_yes a4 ((et_test (ev_isN (ev_var rfl))).is rfl) fun H5 a5 => ?_
          refine st_asg (P := fun v F5 => ∃ q L, v = .ref q ∧ IL K F5 q L ∧ Lead c c a L) a5 (ev_callP (eap_consV (ev_var rfl) (eap_consV (ev_var rfl) (eap_cons (Pr := fun x r F6 => (∃ q, x = .ref q ∧ F6 q = some (.tup (rgV 0 (a.length : Int)))) ∧ r = [.ref fa]) (ev_tupRg ((ev_len (ev_var rfl) (.t (same_t s14 ha1))).is (by rw [ha2])) ⟨by omega, by omega, by omega, by omega, by omega⟩) fun x F6 s6 ⟨t, ex, _, ht⟩ => ((ea_cons (ev_var rfl) ea_nil).toP).imp fun vs F7 s7 ev => ⟨⟨t, ex, s7 _ _ ht⟩, ev⟩))) fun vs F6 H6 s6 ⟨r, ev, r2, er, x, r3, er2, ⟨t, ex, ht⟩, er3⟩ a6 Q' k => ?_) fun v F6 H6 s6 a6 ⟨la, L, ev, hL, hld⟩ => ?_
          · subst ev er er2 ex er3
            refine ⟨p, F6, ca, aa, t, fa, c, a, (List.range a.length).map (fun (i : Nat) => (i : Int)), fl, rfl, a6, hC, same_t (s14.trans s6) hca, haa.mono (s14.trans s6), .tup (by rw [ht]; unfold rgV; rw [List.map_map, show ((a.length : Int) - 0).toNat = a.length by omega]; congr 2; exact List.map_congr_left fun i _ => congrArg V.int (Int.zero_add _)), .l ((s4.trans s6).seq hfl), hfll, hfb, fun v F7 H7 s7 a7 hv => ?_⟩
            rcases hv with ⟨rfl, nf2⟩ | ⟨la, L, ev, hL, hld⟩
            · exact absurd (fun k hk => List.mem_map.mpr ⟨k, List.mem_range.mpr hk, rfl⟩) nf2
            · exact k v F7 H7 s7 a7 ⟨la, L, ev, hL, hld⟩
          · subst ev
            exact tail2 _ _ ⟨la, L, F6, rfl, s6, a6, hL, hld⟩
        · exact st_no a4 ((et_test (ev_isN (ev_var rfl))).is rfl) fun H5 a5 => tail2 _ _ ⟨la, L, F4, rfl, Same.refl _, a5, hL, hld⟩
    · refine st_ifP a2 (et_takeP (n := 2) (ea_cons (ev_var rfl) (ea_cons ev_c ea_nil)) (hd.mono s12) (by decide) (by decide)) (fun _ H3 a3 => ?_) (fun _ H3 a3 => tail _ _ ⟨fa, c, F2, none, rfl, Same.refl _, a3, .of hfa, rfl, c9⟩)
      refine st_asg (P := fun v F3 => ∃ q fl, v = .ref q ∧ IL K F3 q fl ∧ fl.length = c.length ∧ ∀ x ∈ fl, x ≤ 1000000100) a3 ((ev_lcT (J := fun i acc _ => ∃ fl : List Int, acc = fl.map V.int ∧ fl.length = i ∧ ∀ x ∈ fl, x ≤ 1000000100) (ev_var rfl) (same_t s12 hca) (by rw [List.length_map]; omega) (fun _ => rfl) (fun _ _ => ⟨[], rfl, rfl, fun x hx => by cases hx⟩) fun i y acc F3 p' hi s3 ⟨fl, e1, e2, e3⟩ hl hD => LcT.all ?_).imp fun v F3 s3 ⟨l, xs, F4, ev, _, n4, ef, s4, _, fl, e1, e2, e3⟩ => ⟨l, fl, ev, by rw [ef, e1]; exact .of upd_same, by rw [e2, List.length_map], e3⟩) fun v F3 H4 s3 a4 ⟨fa2, fl, ev, hfl, hfll, hfb⟩ => ?_
      · have hil : i < c.length := by have := (List.getElem?_eq_some_iff.mp hi).1; rw [List.length_map] at this; exact this
        rw [List.getElem?_map, nth_get hil] at hi
        obtain rfl := Option.some.inj hi
        have hci := (hC.c0 hil).2
        refine ev_opP (Pb := fun _ y _ => ∃ k : Nat, y = .int (k : Int) ∧ k < 6) (Ev.toP (ev_var rfl)) (fun x F1 s _ => ev_take (n := 6) (ea_cons (ev_var rfl) (ea_cons ev_c ea_nil)) ((hd.at hD (s12.trans s3)).mono s) (by decide) (by decide)) fun x y F1 F2 H2 s1 ex s2 ⟨k, ey, hk⟩ a2 Q' k' => ⟨_, _, ex, ey, k' _ F2 H2 (Same.refl _) a2 ⟨fl ++ [nth c i + (k : Int)], by rw [e1, List.map_append]; rfl, by rw [List.length_append, e2]; rfl, fun z hz => ?_⟩⟩
        rcases List.mem_append.mp hz with z1 | z1
        · exact e3 z z1
        · rw [List.mem_singleton.mp z1]; omega
      · subst ev
        exact tail _ _ ⟨fa2, fl, F3, none, rfl, s3, a4, hfl, hfll, hfb⟩
end
end PA
namespace PA
open PySem PyProof.Rows L2
section
variable {P : Program} {w : World} {K : PySem.W.Frag} {mg : Str → Option Value} {base : Heap}
abbrev wslots (hh : Addr) (most more large k : Nat) (ca aa : Addr) : L2.St := [some (.ref hh), some (.int (most : Int)), some (.int (more : Int)), some (.int (large : Int)), some (.int (k : Int)), some (.ref ca), some (.ref aa), none, none, none]
theorem ch_zero {c : List Int} {a : Arr} (C : Ch c a) : Ch (List.replicate c.length 0) a := by
  refine ⟨by rw [List.length_replicate]; exact C.n1, by rw [List.length_replicate]; exact C.n2, fun x hx => ?_, C.m, fun e he => by rw [List.length_replicate]; exact C.ends e he, fun v hv => C.reach v (by rw [List.length_replicate] at hv; exact hv)⟩
  rw [List.eq_of_mem_replicate hx]
  exact ⟨by decide, by decide⟩
abbrev st_law_world : Stmt := top 72
theorem sc_law_world : FnScope ["_law_hand_here", "_law_most", "_law_more", "_law_large", "_law_menu", "_law_costs_here", "_law_arrows", "_law_first", "_law_charges_here", "_law_leads"] ["_law_hand_here", "_law_most", "_law_more", "_law_large"] (defScope st_law_world) := ⟨rfl, rfl, rfl, by decide +kernel, rfl, by decide +kernel, by decide +kernel⟩
theorem cal_law_world (M : Bl mg) {C : Cs} (T : Tx K C.c C.m C.s) (c_law_chart : Cal P w K mg base 4 "_law_chart" (sp_law_chart K)) (c_law_meter : Cal P w K mg base 5 "_law_meter" (sp_law_meter K)) (c_law_take : Cal P w K mg base 2 "_law_take" (sp_law_take K)) (D : Df K mg "_law_world" st_law_world ["_law_hand_here", "_law_most", "_law_more", "_law_large"]) : Cal P w K mg base 6 "_law_world" (sp_law_world K) := by
  refine cal_of D sc_law_world (fun vs H Q E h => ?_) (fun f cdv A outer s H vs Q E hr h => ?_)
  · obtain ⟨p, F, hh, most, more, large, rfl, _⟩ := h
    rfl
  · have sc := sc_law_world
    refine ⟨_, (pss_cons
      (ps_set (i := 4) sc.nd rfl (Or.inl rfl) (pe_c c_law_take hr (by decide) rfl (pa_cons (pv 0) (pa_cons pe_int pa_nil))))
      (pss_cons
      (ps_asg (pe_c c_law_chart hr (by decide) rfl (pa_cons (pv 0) (pa_cons (pe_ifExp (pt_cmpR op_eq (pv 4) pe_int (nomark _)) (pv 3) (pv 1)) (pa_cons (pv 2) pa_nil)))) (pg_tupK (K := K) (n := 2) rfl rfl (pgs_cons (pg_name (i := 5) sc.nd rfl (Or.inl rfl)) (pgs_cons (pg_name (i := 6) sc.nd rfl (Or.inl rfl)) pgs_nil))))
      (pss_cons
      (ps_if (pt_cmpR op_eq (pv 4) pe_int (nomark _))
      (pss_one
      (ps_set (i := 5) sc.nd rfl (Or.inl rfl) (pe_op op_repA (pe_tup (pa_cons pe_int pa_nil)) (pe_callB (call_lenK (K := K)) rfl M.b_len bt_len (pa_cons (pv 5) pa_nil)))))
      pss_nil)
      (pss_cons
      (ps_asg (pe_c c_law_meter hr (by decide) rfl (pa_cons (pv 0) (pa_cons (pv 5) (pa_cons (pv 6) (pa_cons (pe_c c_law_take hr (by decide) rfl (pa_cons (pv 0) (pa_cons pe_int pa_nil))) pa_nil))))) (pg_tupK (K := K) (n := 3) rfl rfl (pgs_cons (pg_name (i := 7) sc.nd rfl (Or.inl rfl)) (pgs_cons (pg_name (i := 8) sc.nd rfl (Or.inl rfl)) (pgs_cons (pg_name (i := 9) sc.nd rfl (Or.inl rfl)) pgs_nil)))))
      (pss_one
      (ps_ret (pe_tup (pa_cons (pv 5) (pa_cons (pv 6) (pa_cons (pv 7) (pa_cons (pv 8) (pa_cons (pv 9) pa_nil)))))))))))), ?_⟩
    obtain ⟨p, F, hh, most, more, large, rfl, at0, hd, hm, hl, hs1, hs2, q⟩ := h
    refine sq (st_asg at0 (ev_take (n := 8) (ea_cons (ev_var rfl) (ea_cons ev_c ea_nil)) hd (by decide) (by decide)) fun v F1 H1 s1 a1 ⟨k, ev, _⟩ => ?_)
    subst ev
    refine sq (st_asgT (P := fun v F2 => ∃ q ca aa c a, v = .ref q ∧ SqT K F2 q [.ref ca, .ref aa] ∧ IT K F2 ca c ∧ AT K F2 aa a ∧ Ch c a ∧ a.length ≤ 20) a1 (ev_callP (eap_consV (ev_var rfl) (eap_cons (P := fun v _ => ∃ m : Nat, v = .int (m : Int) ∧ 1 ≤ m ∧ m ≤ 16 ∧ m + more ≤ 21) (Pr := fun x r _ => (∃ m : Nat, x = .int (m : Int) ∧ 1 ≤ m ∧ m ≤ 16 ∧ m + more ≤ 21) ∧ r = [.int (more : Int)]) (ev_ifT (et_test (ev_eq (ev_var rfl) ev_c rfl)) (fun _ => (ev_var rfl).toPP fun _ _ => ⟨large, rfl, hl.1, hl.2, hs2⟩) (fun _ => (ev_var rfl).toPP fun _ _ => ⟨most, rfl, hm.1, hm.2, hs1⟩)) fun x F2 s2 hx => ((ea_cons (ev_var rfl) ea_nil).toP).imp fun vs F3 _ ev => ⟨hx, ev⟩)) fun vs F2 H2 s2 ⟨r, ev, x, r2, er, ⟨m, ex, m1, m2, m3⟩, er2⟩ a2 Q' k' => ?_) fun v F2 H2 s2 a2 ⟨t, ca, aa, c, a, ev, ht, hca, haa, hC, hal⟩ => ?_)
    rotate_right
    · subst ev er ex er2
      exact ⟨p, F2, hh, m, more, rfl, a2, hd.mono (s1.trans s2), m1, m2, m3, k'⟩
    subst ev
    refine gt2 (a2.t ht) ?_
    have s12 := s1.trans s2
    dsimp only
    refine st_sq2 (fun σ H => ∃ (ca aa : Addr) (c : List Int) (F3 : Hp), σ = wslots hh most more large k ca aa ∧ Same F2 F3 ∧ At p F3 H ∧ IT K F3 ca c ∧ AT K F3 aa a ∧ Ch c a) ?_ fun tail => ?_
    · rintro σ H3 ⟨ca, aa, c, F3, rfl, s3, a3, hca, haa, hC⟩
      have s13 := s12.trans s3
      refine sq (st_asgT (P := fun v F2 => ∃ q ga la pp g, v = .ref q ∧ SqT K F2 q [.int (nth pp 0), .ref ga, .ref la] ∧ IT K F2 ga g ∧ Mt c a pp g) a3 (ev_callP (eap_consV (ev_var rfl) (eap_consV (ev_var rfl) (eap_consV (ev_var rfl) (eap_one (ev_take (n := 4) (ea_cons (ev_var rfl) (ea_cons ev_c ea_nil)) (hd.mono s13) (by decide) (by decide)))))) fun vs F4 H4 s4 ⟨r, ev, r2, er, r3, er2, x, er3, j, ex, _⟩ a4 Q' k' => ?_) fun v F4 H4 s4 a4 ⟨t, ga, la, pp, g, ev, ht, hga, hM⟩ => ?_)
      · subst ev er er2 er3 ex
        exact ⟨p, F4, hh, ca, aa, c, a, (j : Int), rfl, a4, hd.mono (s13.trans s4), hC, same_t s4 hca, haa.mono s4, hal, k'⟩
      subst ev
      refine gt3 (a4.t ht) ?_
      refine st_ret a4 (ev_tup (ea_cons (ev_var rfl) (ea_cons (ev_var rfl) (ea_cons (ev_var rfl) (ea_cons (ev_var rfl) (ea_cons (ev_var rfl) ea_nil))))) (show 5 ≤ 100000 by decide)) fun v F5 H5 s5 a5 ⟨r, ev, _, hr5⟩ => ?_
      exact q v F5 H5 (s13.trans (s4.trans s5)) a5 ⟨r, ca, aa, ga, la, c, a, pp, g, ev, .of hr5, same_t (s4.trans s5) hca, haa.mono (s4.trans s5), hga.mono s5, hC, hM⟩
    · refine st_if a2 (et_test (ev_eq (ev_var rfl) ev_c rfl)) (fun _ H3 a3 => ?_) (fun _ H3 a3 => tail _ _ ⟨ca, aa, c, F2, rfl, Same.refl _, a3, hca, haa, hC⟩)
      have n1 := hC.n1
      have n2 := hC.n2
      have el : Ev p (tCB (rLen K) (tCons (tVar 5) tNil)) (wslots hh most more large k ca aa) F2 (.int (c.length : Int)) := (ev_len (ev_var rfl) (.t hca)).is (by rw [List.length_map])
      refine st_asg (P := fun v F3 => ∃ q, v = .ref q ∧ IT K F3 q (List.replicate c.length 0)) a3 (ev_opP (Pb := fun _ y _ => y = .int (c.length : Int)) (ev_tup (ea_cons ev_c ea_nil) (show 1 ≤ 100000 by decide)) (fun x F3 s3 _ => (el.mono s3).toP) fun x y F3 F4 H4 s3 ⟨t, ex, _, ht⟩ s4 ey a4 Q' k' => ?_) fun v F3 H4 s3 a4 ⟨t, ev, ht⟩ => ?_
      · subst ex ey
        have ht4 : SqT K F4 t [V.int 0] := .of (s4 _ _ ht)
        refine ⟨t, _, _, rfl, rfl, a4.t ht4, by simp, by omega, by omega, by decide, fun e => k' _ F4 H4 (Same.refl _) a4 ⟨t, rfl, ?_⟩, fun _ l hl => k' _ _ _ (same_new (a4.free hl)) (a4.new hl) ⟨l, rfl, ?_⟩⟩
        · have e1 : c.length = 1 := by omega
          rw [e1]
          exact ht4
        · refine .of ?_
          rw [upd_same, Int.toNat_natCast, flat1, List.map_replicate]
      · subst ev
        exact tail _ _ ⟨t, aa, _, F3, rfl, s3, a4, ht, haa.mono s3, ch_zero hC⟩
end
end PA
namespace PA
open PySem PyProof.Rows L2
section
variable {P : Program} {w : World} {K : PySem.W.Frag} {mg : Str → Option Value} {base : Heap}
abbrev lw (s h ch m r ps : Addr) (kp : Str) (lm ca aa : Addr) (f : Int) (ga la : Addr) (v8 v14 v15 v16 v17 v18 : Option V) : L2.St := [some (.ref s), some (.ref h), some (.ref ch), some (.ref m), some (.ref r), some (.ref ps), some (.str kp), some (.ref lm), v8, some (.ref ca), some (.ref aa), some (.int f), some (.ref ga), some (.ref la), v14, v15, v16, v17, v18]
def J_w1 (p : Wd) (s h ch m r ps : Addr) (kp : Str) (lm ca aa : Addr) (f : Int) (ga la : Addr) : LJ := fun _ σ' p' _ => ∃ v8 v14 v15 v16 v17 v18 : Option V, p' = p ∧ σ' = lw s h ch m r ps kp lm ca aa f ga la v8 v14 v15 v16 v17 v18
theorem plc_take {a : Arr} {run : List Nat} {i j : Nat} (h : i ≤ j) : plc a (run.take j) i = plc a run i := by
  unfold plc
  have e : (0 :: (run.take j).map fun k => (ar a k).2) = (0 :: run.map fun k => (ar a k).2).take (j + 1) := by rw [List.take_succ_cons, List.map_take]
  rw [e, List.getD_eq_getElem?_getD, List.getD_eq_getElem?_getD, List.getElem?_take, if_pos (by omega)]
theorem T_take {c : List Int} {a : Arr} {run : List Nat} {j : Nat} : ∀ {i : Nat}, i ≤ j + 1 → PA.T c a (run.take j) i = PA.T c a run i
  | 0, _ => rfl
  | i + 1, h => by
    show PA.T c a (run.take j) i + nth c (plc a (run.take j) i) = PA.T c a run i + nth c (plc a run i)
    rw [T_take (by omega), plc_take (by omega)]
/-- run[:j] -/
theorem ev_runTake {K : PySem.W.Frag} {p : Wd} {F : Hp} {σ : L2.St} {ta tb : TE} {r : Addr} {run : List Nat} {j : Nat} (ha : Ev p ta σ F (.ref r)) (hb : Ev p tb σ F (.int (j : Int))) (h : RunT K F r run) : EvP p (tSl (rSlA K) ta tNoPart (tPart tb)) σ F (fun v F2 => ∃ q, v = .ref q ∧ RunT K F2 q (run.take j)) := fun F1 H e at1 Q q =>
  ha F1 H e at1 _ fun H2 a2 => hb F1 H2 e a2 _ fun H3 a3 => ⟨_, rfl, r, _, rfl, a3.t (same_t e h), fun ⟨_, e2⟩ => by
    rw [HT.sIx_nat, List.length_map] at e2
    refine q _ F1 H3 (Same.refl _) a3 ⟨r, rfl, ?_⟩
    rw [List.take_of_length_le (by omega)]
    exact same_t e h, fun _ l hl => by
    refine q _ _ _ (same_new (a3.free hl)) (a3.new hl) ⟨l, rfl, ?_⟩
    unfold RunT
    rw [List.map_take, ← cut_upto]
    exact .of upd_same⟩
theorem last_at {ns : List Int} (h : 0 < ns.length) : atI (ns.map V.int) (-1) = some (.int (nth ns (ns.length - 1))) := by
  have e := nth_get (xs := ns) (i := ns.length - 1) (by omega)
  have e2 : (ns.map V.int)[ns.length - 1]? = some (.int (nth ns (ns.length - 1))) := by rw [List.getElem?_map, e]; rfl
  have e3 : ixN (ns.map V.int).length (-1) = some (ns.length - 1) := by
    unfold ixN
    rw [List.length_map, if_neg (by decide), if_pos (by omega)]
    congr 1
    omega
  unfold atI
  rw [e3]
  exact e2
abbrev st_law : Stmt := top 77
theorem sc_law : FnScope ["_law_script", "_law_hand_here", "_law_chart_here", "_law_meter_here", "_law_run_here", "_law_passed", "_law_kept", "_law_limits_here", "_law_limit", "_law_costs_here", "_law_arrows", "_law_first", "_law_charges_here", "_law_leads", "_law_told", "_law_used_here", "_law_places_here", "_law_unused", "_law_stopped"] ["_law_script"] (defScope st_law) := ⟨rfl, rfl, rfl, by decide +kernel, rfl, by decide +kernel, by decide +kernel⟩
theorem law_body (M : Bl mg) {C : Cs} (T : Tx K C.c C.m C.s) (c_law_hand : Cal P w K mg base 1 "_law_hand" (sp_law_hand K)) (c_law_limits : Cal P w K mg base 1 "_law_limits" (sp_law_limits K)) (c_law_lists : Cal P w K mg base 3 "_law_lists" (sp_law_lists K)) (c_law_one : Cal P w K mg base 1 "_law_one" (sp_law_one K)) (c_law_plain : Cal P w K mg base 2 "_law_plain" (sp_law_plain K)) (c_law_run : Cal P w K mg base 3 "_law_run" (sp_law_run K)) (c_law_some : Cal P w K mg base 3 "_law_some" (sp_law_some K)) (c_law_take : Cal P w K mg base 2 "_law_take" (sp_law_take K)) (c_law_used : Cal P w K mg base 2 "_law_used" (sp_law_used K)) (c_law_whole : Cal P w K mg base 1 "_law_whole" sp_is_whole) (c_law_world : Cal P w K mg base 6 "_law_world" (sp_law_world K)) (c_one_paced : Cal P w K mg base 9 "one_paced" (sp_one_paced K C)) (c_plain_stop : Cal P w K mg base 5 "plain_stop" (sp_plain_stop K C)) (m_chart : Mak P w K mg base 2 "Chart" C.c (sp_chart_init K C)) (m_meter : Mak P w K mg base 2 "Meter" C.m (sp_meter_init K C)) (f : Addr) (cdv : Value) (A : Around) (s : Shared) (H : Hp) (vs : List V) (Q : VK) (E : XK) (hr : Room 9 (A.deeper (envOfC "law" (defScope st_law) s.heap.objs.size f cdv))) (hgd : (A.deeper (envOfC "law" (defScope st_law) s.heap.objs.size f cdv)).guards = some []) (h : sp_law K vs H Q E) : ∃ t, PSs (cxOf CX0 P w K mg base ["_law_script", "_law_hand_here", "_law_chart_here", "_law_meter_here", "_law_run_here", "_law_passed", "_law_kept", "_law_limits_here", "_law_limit", "_law_costs_here", "_law_arrows", "_law_first", "_law_charges_here", "_law_leads", "_law_told", "_law_used_here", "_law_places_here", "_law_unused", "_law_stopped"] "law" (defScope st_law) f cdv A [] s H E).nox (defBody st_law) t ∧ t { nx := fun _ H' => Q .non H', rt := Q } (start ["_law_script", "_law_hand_here", "_law_chart_here", "_law_meter_here", "_law_run_here", "_law_passed", "_law_kept", "_law_limits_here", "_law_limit", "_law_costs_here", "_law_arrows", "_law_first", "_law_charges_here", "_law_leads", "_law_told", "_law_used_here", "_law_places_here", "_law_unused", "_law_stopped"] vs) H := by
  have hug : (A.deeper (envOfC "law" (defScope st_law) s.heap.objs.size f cdv)).units + 64 < cLine := by have := hr.un; omega
  · have sc := sc_law
    refine ⟨_, (pss_cons
      (ps_set (i := 1) sc.nd rfl (Or.inl rfl) (pe_c c_law_hand hr (by decide) rfl (pa_cons (pv 0) pa_nil)))
      (pss_cons
      (ps_asg (pe_c c_law_world hr (by decide) rfl (pa_cons (pv 1) (pa_cons pe_int (pa_cons pe_int (pa_cons pe_int pa_nil))))) (pg_tupK (K := K) (n := 5) rfl rfl (pgs_cons (pg_name (i := 9) sc.nd rfl (Or.inl rfl)) (pgs_cons (pg_name (i := 10) sc.nd rfl (Or.inl rfl)) (pgs_cons (pg_name (i := 11) sc.nd rfl (Or.inl rfl)) (pgs_cons (pg_name (i := 12) sc.nd rfl (Or.inl rfl)) (pgs_cons (pg_name (i := 13) sc.nd rfl (Or.inl rfl)) pgs_nil)))))))
      (pss_cons
      (ps_set (i := 2) sc.nd rfl (Or.inl rfl) (pe_mk m_chart hr (by decide) rfl (pa_cons (pv 9) (pa_cons (pv 10) pa_nil))))
      (pss_cons
      (ps_set (i := 3) sc.nd rfl (Or.inl rfl) (pe_mk m_meter hr (by decide) rfl (pa_cons (pv 2) (pa_cons (pv 11) (pa_cons (pv 12) pa_nil)))))
      (pss_cons
      (ps_set (i := 4) sc.nd rfl (Or.inl rfl) (pe_c c_law_run hr (by decide) rfl (pa_cons (pv 1) (pa_cons (pv 10) (pa_cons pe_int pa_nil)))))
      (pss_cons
      (ps_set (i := 5) sc.nd rfl (Or.inl rfl) (pe_c c_law_lists hr (by decide) rfl (pa_cons (pv 1) (pa_cons (pv 4) pa_nil))))
      (pss_cons
      (ps_set (i := 6) sc.nd rfl (Or.inl rfl) (pe_callB (cr_repr hgd hug) rfl M.b_repr bt_repr (pa_cons (pv 5) pa_nil)))
      (pss_cons
      (ps_set (i := 7) sc.nd rfl (Or.inl rfl) (pe_c c_law_limits hr (by decide) rfl (pa_cons (pv 9) (pa_cons (pv 10) (pa_cons (pv 11) (pa_cons (pv 12) (pa_cons (pe_lst pa_nil) (pa_cons (pv 4) pa_nil))))))))
      (pss_cons
      (ps_set (i := 7) sc.nd rfl (Or.inl rfl) (pe_op op_cat (pv 7) (pe_lst (pa_cons (pe_op op_pow pe_int pe_int) (pa_cons (pe_c c_law_take hr (by decide) rfl (pa_cons (pv 1) (pa_cons (pe_op op_add (pe_ix (ix_K (K := K)) (pv 7) (pe_un un_neg pe_int) (fun _ _ => rfl)) pe_int) pa_nil))) pa_nil)))))
      (pss_cons
      (ps_for PassesOwn.never rfl (pi_listK (K := K) rfl (pv 7)) (pg_name (i := 8) sc.nd rfl (Or.inl rfl))
      (pss_cons
      (ps_set (i := 14) sc.nd rfl (Or.inl rfl) (pe_c c_plain_stop hr (by decide) rfl (pa_cons (pv 2) (pa_cons (pv 5) (pa_cons (pv 8) pa_nil)))))
      (pss_one
      (ps_if (PW.pt (pw_or (pt_not (pt_truK (K := K) rfl (pe_c c_law_whole hr (by decide) rfl (pa_cons (pv 14) (pa_cons pe_int (pa_cons (pe_op op_add (pe_callB (call_lenK (K := K)) rfl M.b_len bt_len (pa_cons (pv 4) pa_nil)) pe_int) pa_nil)))))) (pw_or1 (pt_cmpR op_ne (pv 14) (pe_c c_law_plain hr (by decide) rfl (pa_cons (pv 9) (pa_cons (pv 10) (pa_cons (pv 4) (pa_cons (pv 8) pa_nil))))) (nomark _)))))
      (pss_one
      (ps_ret pe_bl))
      pss_nil))))
      (pss_cons
      (ps_for PassesOwn.never rfl (pi_listK (K := K) rfl (pe_c c_law_some hr (by decide) rfl (pa_cons (pv 1) (pa_cons (pv 7) (pa_cons pe_int pa_nil))))) (pg_name (i := 8) sc.nd rfl (Or.inl rfl))
      (pss_cons
      (ps_set (i := 14) sc.nd rfl (Or.inl rfl) (pe_c c_one_paced hr (by decide) rfl (pa_cons (pv 3) (pa_cons (pv 5) (pa_cons (pv 8) pa_nil)))))
      (pss_cons
      (ps_asg (pe_c c_law_one hr (by decide) rfl (pa_cons (pv 9) (pa_cons (pv 10) (pa_cons (pv 11) (pa_cons (pv 12) (pa_cons (pv 4) (pa_cons (pv 8) pa_nil))))))) (pg_tupK (K := K) (n := 3) rfl rfl (pgs_cons (pg_name (i := 16) sc.nd rfl (Or.inl rfl)) (pgs_cons (pg_name (i := 17) sc.nd rfl (Or.inl rfl)) (pgs_cons (pg_name (i := 18) sc.nd rfl (Or.inl rfl)) pgs_nil)))))
      (pss_cons
      (ps_if (PW.pt (pw_or (pt_not (pt_truK (K := K) rfl (pe_c c_law_whole hr (by decide) rfl (pa_cons (pe_fldK (K := K) rfl (pv 14) rfl) (pa_cons pe_int (pa_cons (pe_op op_add (pe_callB (call_lenK (K := K)) rfl M.b_len bt_len (pa_cons (pv 4) pa_nil)) pe_int) pa_nil)))))) (pw_or1 (pt_not (pt_truK (K := K) rfl (pe_c c_law_whole hr (by decide) rfl (pa_cons (pe_fldK (K := K) rfl (pv 14) rfl) (pa_cons pe_int (pa_cons (pv 8) pa_nil)))))))))
      (pss_one
      (ps_ret pe_bl))
      pss_nil)
      (pss_cons
      (ps_if (PW.pt (pw_or (pt_cmpR op_ne (pe_fldK (K := K) rfl (pv 14) rfl) (pv 16) (nomark _)) (pw_or (pt_cmpR op_ne (pe_fldK (K := K) rfl (pv 14) rfl) (pv 17) (nomark _)) (pw_or1 (pt_cmpR op_gt (pv 16) (pe_c c_law_plain hr (by decide) rfl (pa_cons (pv 9) (pa_cons (pv 10) (pa_cons (pv 4) (pa_cons (pv 8) pa_nil))))) (nomark _))))))
      (pss_one
      (ps_ret pe_bl))
      pss_nil)
      (pss_cons
      (ps_set (i := 15) sc.nd rfl (Or.inl rfl) (pe_ifExp (pt_truK (K := K) rfl (pv 16)) (pe_c c_law_used hr (by decide) rfl (pa_cons (pv 9) (pa_cons (pv 10) (pa_cons (pe_slice sl_tupA (pv 4) po_none (po_some (pe_op op_sub (pv 16) pe_int))) pa_nil)))) pe_int))
      (pss_one
      (ps_if (PW.pt (pw_or (pt_cmpR op_ne (pe_op op_add (pe_fldK (K := K) rfl (pv 14) rfl) (pv 15)) (pv 8) (nomark _)) (pw_or1 (PW.pt (pw_and (pt_not (pt_truK (K := K) rfl (pv 18))) (pw_and1 (pt_cmpR op_ne (pv 16) (pe_op op_add (pe_callB (call_lenK (K := K)) rfl M.b_len bt_len (pa_cons (pv 4) pa_nil)) pe_int) (nomark _))))))))
      (pss_one
      (ps_ret pe_bl))
      pss_nil))))))))
      (pss_one
      (ps_ret (pe_cmpR op_eq (pe_callB (cr_repr hgd hug) rfl M.b_repr bt_repr (pa_cons (pv 5) pa_nil)) (pv 6) (nomark _))))))))))))))), ?_⟩
    obtain ⟨sa, ns, rfl, hs, hlen, q⟩ := h
    -- the hand
    refine sq (show tAsg (tCall (sp_law_hand K) [] E0 (tCons (tVar 0) tNil)) (gName 1) _ _ _ from ⟨.ref sa, rfl, H, sa, ns, rfl, at_nil H, hs, hlen, fun hh cc F1 H1 s1 a1 hd => ?_⟩)
    -- the world
    refine sq (st_asgT (P := fun v F2 => ∃ q ca aa ga la c a pp g, v = .ref q ∧ SqT K F2 q [.ref ca, .ref aa, .int (nth pp 0), .ref ga, .ref la] ∧ IT K F2 ca c ∧ AT K F2 aa a ∧ IT K F2 ga g ∧ Ch c a ∧ Mt c a pp g) a1 (ev_call (ea_cons (ev_var rfl) (ea_cons ev_c (ea_cons ev_c (ea_cons ev_c ea_nil)))) fun F2 H2 s2 a2 Q' k => ⟨_, F2, hh, 5, 5, 9, rfl, a2, hd.mono s2, ⟨by decide, by decide⟩, ⟨by decide, by decide⟩, by decide, by decide, k⟩) fun v F2 H2 s2 a2 ⟨t, ca, aa, ga, la, c, a, pp, g, ev, ht, hca, haa, hga, hC, hM⟩ => ?_)
    subst ev
    refine gt5 (a2.t ht) ?_
    have hf := hM.p0 0 hC.n1
    -- the chart
    refine sq (st_asg (P := fun v F3 => ∃ x, v = .ref x ∧ ChA K C F3 x c a) a2 (ev_make (ea_cons (ev_var rfl) (ea_cons (ev_var rfl) ea_nil)) fun F3 H3 x dx s3 a3 hx hdx hne Q' k => ⟨_, F3, x, dx, ca, aa, c, a, rfl, (a3.new0 hdx).mine (by rw [upd_ne hne.symm]; exact hx), same_t s3 hca, haa.mono s3, hC, fun F4 H4 fs a4 s4 at4 l1 l2 h4 => ⟨rfl, k _ _ _ (s4.trans at4.give_same) at4.give ⟨x, rfl, dx, fs, ca, a4, upd_same, l1, l2, same_t (s3.trans (s4.trans at4.give_same)) hca, h4.mono at4.give_same⟩⟩⟩) fun v F3 H3 s3 a3 ⟨ch, ev, hch⟩ => ?_)
    subst ev
    -- the meter
    refine sq (st_asg (P := fun v F4 => ∃ x, v = .ref x ∧ MtA K C F4 x c a (nth pp 0) g) a3 (ev_make (ea_cons (ev_var rfl) (ea_cons (ev_var rfl) (ea_cons (ev_var rfl) ea_nil))) fun F4 H4 x dx s4 a4 hx hdx hne Q' k => ⟨_, F4, x, dx, ch, ga, c, a, nth pp 0, g, rfl, (a4.new0 hdx).mine (by rw [upd_ne hne.symm]; exact hx), hch.mono s4, same_t (s3.trans s4) hga, hM.gl, hf, fun y hy => ?_, fun H5 fs at5 l1 l2 l3 => ⟨rfl, k _ _ _ at5.give_same at5.give ⟨x, rfl, dx, fs, ch, ga, upd_same, l1, l2, l3, hch.mono (s4.trans at5.give_same), same_t (s3.trans (s4.trans at5.give_same)) hga⟩⟩⟩) fun v F4 H4 s4 a4 ⟨m, ev, hm⟩ => ?_)
    rotate_right
    · obtain ⟨j, hj, e⟩ := List.mem_iff_getElem.mp hy
      have e2 := nth_get hj
      rw [List.getElem?_eq_getElem hj, e] at e2
      rw [Option.some.inj e2]
      exact hM.g0 j (by rw [← hM.gl]; exact hj)
    subst ev
    have s24 := s3.trans s4
    have mw : MW K C F4 m c a pp g := ⟨hm, hC, hM⟩
    have hca4 := same_t s24 hca
    have haa4 := haa.mono s24
    have hga4 := same_t s24 hga
    have hch4 := hch.mono s4
    -- the run
    refine sq (st_asg (P := fun v F5 => ∃ q run, v = .ref q ∧ RunT K F5 q run ∧ IsRun a 0 run ∧ run.length ≤ 6) a4 (ev_call (ea_cons (ev_var rfl) (ea_cons (ev_var rfl) (ea_cons ev_c ea_nil))) fun F5 H5 s5 a5 Q' k => ⟨_, F5, hh, aa, a, 6, rfl, a5, hd.mono (s2.trans (s24.trans s5)), haa4.mono s5, hC.m, by decide, k⟩) fun v F5 H5 s5 a5 ⟨r, run, ev, hr5, hrun, hrl⟩ => ?_)
    subst ev
    refine sq (st_asg (P := fun v F6 => ∃ q, v = .ref q ∧ RunA K F6 q run) a5 (ev_call (ea_cons (ev_var rfl) (ea_cons (ev_var rfl) ea_nil)) fun F6 H6 s6 a6 Q' k => ⟨_, F6, hh, r, run, rfl, a6, hd.mono (s2.trans (s24.trans (s5.trans s6))), hr5.mono s6, k⟩) fun v F6 H6 s6 a6 ⟨ps, ev, hps⟩ => ?_)
    subst ev
    -- what is shown
    have hsh : ∃ l : Bool, ∀ (σ : L2.St) (F7 : Hp), σ[5]? = some (some (.ref ps)) → Same F6 F7 → Ev (.hand hh cc) (tCB (rRepr K) (tCons (tVar 5) tNil)) σ F7 (.str (shownI l (run.map fun (k : Nat) => (k : Int)))) := by
      have em : (run.map fun (k : Nat) => (k : Int)).map V.int = run.map fun (k : Nat) => V.int (k : Int) := by rw [List.map_map]; rfl
      have hb : ∀ n ∈ run.map (fun (k : Nat) => (k : Int)), n.natAbs < 1000000 := fun n hn => by
        obtain ⟨k, hk, rfl⟩ := List.mem_map.mp hn
        obtain ⟨j, hj, e⟩ := List.mem_iff_getElem.mp hk
        have := hrun.lt hj
        have e2 := rn_get hj
        rw [List.getElem?_eq_getElem hj, e] at e2
        rw [← Option.some.inj e2] at this
        have := hC.m
        omega
      rcases hps with h | h
      · exact ⟨true, fun σ F7 h5 s7 => ev_cbV (ea_cons (ev_var h5) ea_nil) fun F8 H8 s8 a8 Q' k => ⟨ps, _, true, rfl, by rw [if_pos rfl, em]; exact a8.l ((s7.trans s8).seq h), by rw [List.length_map]; omega, hb, k⟩⟩
      · exact ⟨false, fun σ F7 h5 s7 => ev_cbV (ea_cons (ev_var h5) ea_nil) fun F8 H8 s8 a8 Q' k => ⟨ps, _, false, rfl, by rw [if_neg (by decide), em]; exact a8.t (same_t (s7.trans s8) h), by rw [List.length_map]; omega, hb, k⟩⟩
    obtain ⟨sl, hsh⟩ := hsh
    generalize shownI sl (run.map fun (k : Nat) => (k : Int)) = kp at hsh
    refine sq (st_asgV a6 (hsh _ F6 rfl (Same.refl _)) fun H7 a7 => ?_)
    -- the limits
    have s46 := s5.trans s6
    refine sq (st_asg (P := fun v F7 => ∃ q, ∃ (ns : List Int), v = .ref q ∧ F7 q = some (.lst (ns.map V.int)) ∧ ns ≠ [] ∧ ns.length ≤ 60 ∧ ∀ x ∈ ns, 0 ≤ x ∧ x ≤ 10000000000000) a7 (ev_callP (eap_consV (ev_var rfl) (eap_consV (ev_var rfl) (eap_consV (ev_var rfl) (eap_consV (ev_var rfl) (eap_cons (Pr := fun x r0 F8 => (∃ q, x = .ref q ∧ F8 q = some (.lst [])) ∧ r0 = [.ref r]) (ev_lst ea_nil (show 0 ≤ 100000 by decide)) fun x F8 s8 ⟨gt, ex, _, hgt⟩ => ((ea_cons (ev_var rfl) ea_nil).toP).imp fun vs F9 s9 ev => ⟨⟨gt, ex, s9 _ _ hgt⟩, ev⟩))))) fun vs F8 H8 s8 hv a8 Q' k => ?_) fun v F7 H8 s7 a8 ⟨l1, n1, ev, hl1, hn1, hn1l, hn1b⟩ => ?_)
    · obtain ⟨r1, rfl, r2, rfl, r3, rfl, r4, rfl, x, r5, rfl, ⟨gt, rfl, hgt⟩, rfl⟩ := hv
      exact ⟨_, F8, ca, aa, ga, gt, r, c, a, pp, g, run, rfl, a8, same_t (s46.trans s8) hca4, haa4.mono (s46.trans s8), same_t (s46.trans s8) hga4, .of hgt, hC, hM, hr5.mono (s6.trans s8), hrun, hrl, k⟩
    subst ev
    have s47 := s46.trans s7
    have hn1p : 0 < n1.length := List.length_pos_iff.mpr hn1
    have hlast := hn1b _ (nth_mem (xs := n1) (i := n1.length - 1) (by omega))
    refine sq (st_asg (P := fun v F8 => ∃ q, ∃ (ns : List Int), v = .ref q ∧ F8 q = some (.lst (ns.map V.int)) ∧ ns.length ≤ 62 ∧ ∀ x ∈ ns, 0 ≤ x ∧ x ≤ 1000000000000000) a8 (ev_opP (Pb := fun _ y F9 => ∃ q z, y = .ref q ∧ F9 q = some (.lst [.int 1000000000000000, .int z]) ∧ 0 ≤ z ∧ z ≤ 1000000000000000) (Ev.toP (ev_var rfl)) (fun x F9 s9 _ => (ev_lstP (Pv := fun vs _ => ∃ z : Int, vs = [.int 1000000000000000, .int z] ∧ 0 ≤ z ∧ z ≤ 1000000000000000) ((eap_consV ((ev_pow ev_c ev_c ⟨by decide, by decide, by decide⟩).is (show V.int ((10 : Int) ^ Int.toNat 15) = V.int 1000000000000000 by rfl)) (eap_one (ev_takeI (many := nth n1 (n1.length - 1) + 2) (ea_cons (ev_var rfl) (ea_cons (ev_add (ev_ix (ev_var rfl) (ev_neg ev_c) (.lst (s9 _ _ hl1)) (last_at hn1p)) ev_c) ea_nil)) (hd.mono (s2.trans (s24.trans (s47.trans s9)))) (by omega) (by omega)))).imp fun vs F10 _ ⟨r0, ev, x2, er, z, ex2, z0, z1⟩ => ⟨z, by rw [ev, er, ex2], z0, by omega⟩) fun vs F10 ⟨z, ev, _⟩ => by rw [ev]; show 2 ≤ 100000; decide).imp fun v F10 _ ⟨q2, vs, F11, ev, _, _, ef, _, z, evs, z0, z1⟩ => ⟨q2, z, ev, by rw [ef, evs]; exact upd_same, z0, z1⟩) fun x y F9 F10 H10 s9 ex s10 ⟨q2, z, ey, hq2, z0, z1⟩ a10 Q' k => ?_) fun v F8 H9 s8 a9 ⟨lm, n2, ev, hlm, hn2, hnb⟩ => ?_)
    rotate_right
    · subst ex ey
      refine ⟨l1, q2, _, _, rfl, rfl, a10.get ((s9.trans s10) _ _ hl1), a10.get hq2, Nat.le_trans (show (n1.map V.int).length + 2 ≤ 100000 by rw [List.length_map]; omega) (by decide), fun l hl => k _ _ _ (same_new (a10.free hl)) (a10.new hl) ⟨l, n1 ++ [1000000000000000, z], rfl, by rw [upd_same, List.map_append]; rfl, by rw [List.length_append]; show n1.length + 2 ≤ 62; omega, fun x hx => ?_⟩⟩
      rcases List.mem_append.mp hx with w | w
      · have := hn1b x w
        omega
      · simp at w
        rcases w with w | w <;> omega
    subst ev
    have s48 := s47.trans s8
    have hd8 := hd.mono (s2.trans (s24.trans s48))
    have hca8 := same_t s48 hca4
    have haa8 := haa4.mono s48
    have hga8 := same_t s48 hga4
    have hch8 := hch4.mono s48
    have mw8 := mw.mono s48
    have s68 := s7.trans s8
    have hr8 := hr5.mono (s6.trans s68)
    have hps8 := hps.mono s68
    have hml : (run.map fun (k : Nat) => V.int (k : Int)).length = run.length := by rw [List.length_map]
    clear a1 a2 a3 a4 a5 a6 a7 a8 hca haa hga hca4 haa4 hga4 hch hch4 hm mw
    -- plain stops
    refine sq (st_forL (J_w1 (.hand hh cc) sa hh ch m r ps kp lm ca aa (nth pp 0) ga la) a9 (ev_var rfl) (.of hlm) ⟨none, none, none, none, none, none, rfl, rfl⟩ ?_ ?_)
    · rintro i x σ' p' F9 H10 hi s9 a10 ⟨v8, v14, v15, v16, v17, v18, rfl, rfl⟩
      have hil : i < n2.length := by have := (List.getElem?_eq_some_iff.mp hi).1; rw [List.length_map] at this; exact this
      rw [List.getElem?_map, nth_get hil] at hi
      obtain rfl := Option.some.inj hi
      have hlb := hnb _ (nth_mem hil)
      generalize nth n2 i = lim at hlb
      have pr := plain_filt (run := run) hC (lim := lim)
      generalize hk0 : (((List.range (run.length + 1)).map fun i => U c a run i).filter fun x => decide (x ≤ lim)).length = k0 at pr
      have hle := pr.le
      refine sq (st_asgV a10 (ev_callV (v := .int (k0 : Int)) (ea_cons (ev_var rfl) (ea_cons (ev_var rfl) (ea_cons (ev_var rfl) ea_nil))) fun F10 H11 s10 a11 Q' k => ⟨_, F10, ch, ps, c, a, run, lim, rfl, a11, hch8.mono (s9.trans s10), hC, hps8.mono (s9.trans s10), hrun, by omega, hlb.1, hlb.2, fun k2 h2 => by rw [h2.uniq pr]; exact k⟩) fun H11 a11 => ?_)
      exact st_no a11 ((et_or (et_not (et_bl (ev_whole (ea_cons (ev_var rfl) (ea_cons ev_c (ea_cons (ev_add ((ev_len (ev_var rfl) (.t (hr8.mono s9))).is (by rw [hml])) ev_c) ea_nil)))))) fun _ => et_test (ev_ne (ev_var rfl) (ev_callV (v := .int (k0 : Int)) (ea_cons (ev_var rfl) (ea_cons (ev_var rfl) (ea_cons (ev_var rfl) (ea_cons (ev_var rfl) ea_nil)))) fun F10 H12 s10 a12 Q' k => ⟨_, F10, ca, aa, r, c, a, run, lim, rfl, a12, same_t (s9.trans s10) hca8, haa8.mono (s9.trans s10), hC, hr8.mono (s9.trans s10), hrun, by omega, fun k2 h2 => by rw [h2.uniq pr]; exact k⟩) rfl)).is (by simp; omega)) fun H12 a12 => ⟨_, F9, s9, a12, _, _, _, _, _, _, rfl, rfl⟩
    rintro σ' p' F9 H10 s9 a10 ⟨v8, v14, v15, v16, v17, v18, rfl, rfl⟩
    have s49 := s48.trans s9
    -- one purse
    refine sq (st_forLP (Pt := fun _ xs _ => ∃ ys : List Int, xs = ys.map V.int ∧ ∀ y ∈ ys, y ∈ n2) (fun _ _ => J_w1 (.hand hh cc) sa hh ch m r ps kp lm ca aa (nth pp 0) ga la) a10 (ev_call (ea_cons (ev_var rfl) (ea_cons (ev_var rfl) (ea_cons ev_c ea_nil))) fun F10 H11 s10 a11 Q' k => ⟨_, F10, hh, lm, n2, 12, rfl, a11, hd8.mono (s9.trans s10), .of ((s9.trans s10) _ _ hlm), by decide, by decide, by omega, fun v F11 H12 s11 a12 ⟨q2, ys, ev, h1, h2⟩ => k v F11 H12 s11 a12 ⟨q2, _, ev, h1, ys, rfl, h2⟩⟩) (fun _ _ _ _ _ => ⟨v8, v14, v15, v16, v17, v18, rfl, rfl⟩) ?_ ?_)
    · rintro ya xs F10 i x σ' p' F11 H11 s10 ⟨ys, rfl, hys⟩ hi s11 a11 ⟨v8, v14, v15, v16, v17, v18, rfl, rfl⟩
      have hil : i < ys.length := by have := (List.getElem?_eq_some_iff.mp hi).1; rw [List.length_map] at this; exact this
      rw [List.getElem?_map, nth_get hil] at hi
      obtain rfl := Option.some.inj hi
      have hlb := hnb _ (hys _ (nth_mem hil))
      generalize nth ys i = lim at hlb
      have pr := plain_filt (run := run) hC (lim := lim)
      generalize hk0 : (((List.range (run.length + 1)).map fun i => U c a run i).filter fun x => decide (x ≤ lim)).length = k0 at pr
      have s811 := s9.trans (s10.trans s11)
      have hlen9 : ∀ {σ : L2.St} {F' : Hp}, σ[4]? = some (some (.ref r)) → Same F11 F' → Ev (.hand hh cc) (tOp (rI0 fun i j => .int (i + j)) (tCB (rLen K) (tCons (tVar 4) tNil)) (tC (.int 1))) σ F' (.int ((run.length : Int) + 1)) := fun {σ F'} h s' => ev_add ((ev_len (ev_var h) (.t (hr8.mono (s811.trans s')))).is (by rw [hml])) ev_c
      have hplain : ∀ {σ : L2.St} {F' : Hp}, σ[9]? = some (some (.ref ca)) → σ[10]? = some (some (.ref aa)) → σ[4]? = some (some (.ref r)) → σ[8]? = some (some (.int lim)) → Same F11 F' → Ev (.hand hh cc) (tCall (sp_law_plain K) [] E0 (tCons (tVar 9) (tCons (tVar 10) (tCons (tVar 4) (tCons (tVar 8) tNil))))) σ F' (.int (k0 : Int)) := fun {σ F'} h9 h10 h4 h8 s' => ev_callV (ea_cons (ev_var h9) (ea_cons (ev_var h10) (ea_cons (ev_var h4) (ea_cons (ev_var h8) ea_nil)))) fun F12 H12 s12 a12 Q' k => ⟨_, F12, ca, aa, r, c, a, run, lim, rfl, a12, same_t (s811.trans (s'.trans s12)) hca8, haa8.mono (s811.trans (s'.trans s12)), hC, hr8.mono (s811.trans (s'.trans s12)), hrun, by omega, fun k2 h2 => by rw [h2.uniq pr]; exact k⟩
      refine sq (st_asg (P := fun v F2 => ∃ q dx fs, ∃ (pl : Nat) (un : Int) (st : Bool), v = .ref q ∧ F2 q = some (.ins C.s dx fs) ∧ fs.lookup ("places" : Str) = some (.int (pl : Int)) ∧ fs.lookup ("unused" : Str) = some (.int un) ∧ OneR c a g (nth pp 0) run lim pl un st) a11 (ev_call (ea_cons (ev_var rfl) (ea_cons (ev_var rfl) (ea_cons (ev_var rfl) ea_nil))) fun F12 H12 s12 a12 Q' k => ⟨_, F12, m, ps, c, a, pp, g, run, lim, rfl, a12, mw8.mono (s811.trans s12), hps8.mono (s811.trans s12), hrun, by omega, hlb.1, hlb.2, k⟩) fun v F12 H12 s12 a12 ⟨tq, dx, fs, pl, un, st, ev, htq, hpl, hun, ho⟩ => ?_)
      subst ev
      refine sq (st_asgT (P := fun v F2 => ∃ q, ∃ (pl : Nat) (un : Int) (st : Bool), v = .ref q ∧ SqT K F2 q [.int (pl : Int), .int un, .bl st] ∧ OneR c a g (nth pp 0) run lim pl un st) a12 (ev_call (ea_cons (ev_var rfl) (ea_cons (ev_var rfl) (ea_cons (ev_var rfl) (ea_cons (ev_var rfl) (ea_cons (ev_var rfl) (ea_cons (ev_var rfl) ea_nil)))))) fun F13 H13 s13 a13 Q' k => ⟨_, F13, ca, aa, ga, r, c, a, g, run, nth pp 0, lim, rfl, a13, same_t (s811.trans (s12.trans s13)) hca8, haa8.mono (s811.trans (s12.trans s13)), same_t (s811.trans (s12.trans s13)) hga8, hM.gl, hC, hr8.mono (s811.trans (s12.trans s13)), hrun, by omega, k⟩) fun v F13 H13 s13 a13 ⟨oq, pl', un', st', ev, hoq, ho'⟩ => ?_)
      subst ev
      obtain ⟨e1, e2, e3⟩ := ho'.uniq ho
      subst e1 e2 e3
      refine gt3 (a13.t hoq) ?_
      obtain ⟨g1, g2, g3, g4, g5, g6, g7⟩ := ho.good hC hM hrun hlb.1 pr
      have htq3 := s13 _ _ htq
      have s1213 := s12.trans s13
      refine sq (st_no a13 ((et_or (et_not (et_bl (ev_whole (ea_cons (ev_fld (ev_var rfl) htq3 T.s T.s_places hpl) (ea_cons ev_c (ea_cons (hlen9 rfl s1213) ea_nil)))))) fun _ => et_not (et_bl (ev_whole (ea_cons (ev_fld (ev_var rfl) htq3 T.s T.s_unused hun) (ea_cons ev_c (ea_cons (ev_var rfl) ea_nil)))))).is (by simp; omega)) fun H14 a14 => ?_)
      dsimp only [tNext]
      refine sq (st_no a14 ((et_or (et_test (ev_ne (ev_fld (ev_var rfl) htq3 T.s T.s_places hpl) (ev_var rfl) rfl)) fun _ => et_or (et_test (ev_ne (ev_fld (ev_var rfl) htq3 T.s T.s_unused hun) (ev_var rfl) rfl)) fun _ => et_test (ev_gt (ev_var rfl) (hplain rfl rfl rfl rfl s1213))).is (by simp; omega)) fun H15 a15 => ?_)
      dsimp only [tNext]
      refine sq (st_asg (P := fun v _ => ∃ w : Int, v = .int w ∧ un' + w = lim) a15 (ev_ifT (et_int (ev_var rfl)) (fun hb => ?_) (fun hb => ?_)) fun v F14 H16 s14 a16 ⟨w2, ev, hw⟩ => ?_)
      · have hne : ¬ (pl' : Int) = 0 := by simpa using hb
        obtain ⟨j, rfl⟩ : ∃ j, pl' = j + 1 := ⟨pl' - 1, by omega⟩
        obtain ⟨g8, g9⟩ := g6 j rfl
        refine ev_callP (eap_consV (ev_var rfl) (eap_consV (ev_var rfl) (eap_one (ev_runTake (j := j) (ev_var rfl) ((ev_sub (ev_var rfl) ev_c).is (congrArg V.int (show ((j + 1 : Nat) : Int) - 1 = (j : Int) by omega))) (hr8.mono (s811.trans s1213)))))) fun vs F14 H16 s14 ⟨r1, ev, r2, er, x, er2, rq, ex, hrq⟩ a16 Q' k => ?_
        subst ev er er2 ex
        have hs' := s811.trans (s1213.trans s14)
        refine ⟨_, F14, ca, aa, rq, c, a, run.take j, rfl, a16, same_t hs' hca8, haa8.mono hs', hC, hrq, hrun.take j, by rw [List.length_take]; omega, fun H' a' => k _ F14 H' (Same.refl _) a' ⟨U c a run j, ?_, g9⟩⟩
        rw [List.length_take, Nat.min_eq_left g8, T_take (Nat.le_refl _)]
      · have he : (pl' : Int) = 0 := by simpa using hb
        exact ev_c.toPP fun F14 _ => ⟨0, rfl, by have := g5 (by omega); omega⟩
      subst ev
      refine st_no a16 ((et_or (et_test (ev_ne (ev_add (ev_fld (ev_var rfl) (s14 _ _ htq3) T.s T.s_unused hun) (ev_var rfl)) (ev_var rfl) rfl)) fun _ => et_and (et_not (et_bl (ev_var rfl))) fun _ => et_test (ev_ne (ev_var rfl) (hlen9 rfl (s1213.trans s14)) rfl)).is ?_) fun H17 a17 => ⟨_, F14, s11.trans (s1213.trans s14), a17, _, _, _, _, _, _, rfl, rfl⟩
      rw [hw]
      cases st' with
      | true => simp
      | false =>
        have := g7 rfl
        subst this
        simp
    rintro ya xs F10 σ' p' F11 H11 s10 ⟨ys, rfl, hys⟩ s11 a11 ⟨v8, v14, v15, v16, v17, v18, rfl, rfl⟩
    exact st_retV (σ := lw sa hh ch m r ps kp lm ca aa (nth pp 0) ga la v8 v14 v15 v16 v17 v18) (D := { nx := fun x H' => Q V.non H', rt := Q }) a11 ((ev_eq (hsh _ _ rfl (s68.trans (s9.trans (s10.trans s11)))) (ev_var rfl) rfl).is (by simp)) fun H12 _ => q H12
end
end PA
namespace PA
open PySem PySem.Spec PyProof.Rows L2
/-! ### the head -/
abbrev RR : PySem.W.OpenRow := PySem.W.OpenLaw.row PySem.Challenge.rw_purseahead_k35_whole_one_paced_at_all_li
def dd_is_whole : He.DefD := ⟨("is_whole", none), "is_whole", "is_whole", defArgs st_is_whole, defBody st_is_whole, defScope st_is_whole, [], []⟩
def dd_is_row : He.DefD := ⟨("is_row", none), "is_row", "is_row", defArgs st_is_row, defBody st_is_row, defScope st_is_row, [], []⟩
def dd_reached_places : He.DefD := ⟨("reached_places", none), "reached_places", "reached_places", defArgs st_reached_places, defBody st_reached_places, defScope st_reached_places, [], []⟩
def dd_chart_init : He.DefD := ⟨("Chart", some "__init__"), "__init__", "Chart.__init__", defArgs st_chart_init, defBody st_chart_init, defScope st_chart_init, [], []⟩
def dd_meter_init : He.DefD := ⟨("Meter", some "__init__"), "__init__", "Meter.__init__", defArgs st_meter_init, defBody st_meter_init, defScope st_meter_init, [], []⟩
def dd_stop_init : He.DefD := ⟨("Stop", some "__init__"), "__init__", "Stop.__init__", defArgs st_stop_init, defBody st_stop_init, defScope st_stop_init, [], []⟩
def dd_arrow_gain : He.DefD := ⟨("arrow_gain", none), "arrow_gain", "arrow_gain", defArgs st_arrow_gain, defBody st_arrow_gain, defScope st_arrow_gain, [], []⟩
def dd_rest_rows : He.DefD := ⟨("rest_rows", none), "rest_rows", "rest_rows", defArgs st_rest_rows, defBody st_rest_rows, defScope st_rest_rows, [], []⟩
def dd_can_drift : He.DefD := ⟨("can_drift", none), "can_drift", "can_drift", defArgs st_can_drift, defBody st_can_drift, defScope st_can_drift, [], []⟩
def dd_least_ring : He.DefD := ⟨("least_ring", none), "least_ring", "least_ring", defArgs st_least_ring, defBody st_least_ring, defScope st_least_ring, [], []⟩
def dd_first_drift : He.DefD := ⟨("first_drift", none), "first_drift", "first_drift", defArgs st_first_drift, defBody st_first_drift, defScope st_first_drift, [], []⟩
def dd_find_drift : He.DefD := ⟨("find_drift", none), "find_drift", "find_drift", defArgs st_find_drift, defBody st_find_drift, defScope st_find_drift, [], []⟩
def dd_find_fall : He.DefD := ⟨("find_fall", none), "find_fall", "find_fall", defArgs st_find_fall, defBody st_find_fall, defScope st_find_fall, [], []⟩
def dd_find_rise : He.DefD := ⟨("find_rise", none), "find_rise", "find_rise", defArgs st_find_rise, defBody st_find_rise, defScope st_find_rise, [], []⟩
def dd_check_run : He.DefD := ⟨("check_run", none), "check_run", "check_run", defArgs st_check_run, defBody st_check_run, defScope st_check_run, [], []⟩
def dd_places_of : He.DefD := ⟨("places_of", none), "places_of", "places_of", defArgs st_places_of, defBody st_places_of, defScope st_places_of, [], []⟩
def dd_used_row : He.DefD := ⟨("used_row", none), "used_row", "used_row", defArgs st_used_row, defBody st_used_row, defScope st_used_row, [], []⟩
def dd_lead_rows : He.DefD := ⟨("lead_rows", none), "lead_rows", "lead_rows", defArgs st_lead_rows, defBody st_lead_rows, defScope st_lead_rows, [], []⟩
def dd_extreme_worths : He.DefD := ⟨("extreme_worths", none), "extreme_worths", "extreme_worths", defArgs st_extreme_worths, defBody st_extreme_worths, defScope st_extreme_worths, [], []⟩
def dd_low_leads : He.DefD := ⟨("low_leads", none), "low_leads", "low_leads", defArgs st_low_leads, defBody st_low_leads, defScope st_low_leads, [], []⟩
def dd_high_leads : He.DefD := ⟨("high_leads", none), "high_leads", "high_leads", defArgs st_high_leads, defBody st_high_leads, defScope st_high_leads, [], []⟩
def dd_even_leads : He.DefD := ⟨("even_leads", none), "even_leads", "even_leads", defArgs st_even_leads, defBody st_even_leads, defScope st_even_leads, [], []⟩
def dd_check_limit : He.DefD := ⟨("check_limit", none), "check_limit", "check_limit", defArgs st_check_limit, defBody st_check_limit, defScope st_check_limit, [], []⟩
def dd_good_leads : He.DefD := ⟨("good_leads", none), "good_leads", "good_leads", defArgs st_good_leads, defBody st_good_leads, defScope st_good_leads, [], []⟩
def dd_plain_stop : He.DefD := ⟨("plain_stop", none), "plain_stop", "plain_stop", defArgs st_plain_stop, defBody st_plain_stop, defScope st_plain_stop, [], []⟩
def dd_one_paced : He.DefD := ⟨("one_paced", none), "one_paced", "one_paced", defArgs st_one_paced, defBody st_one_paced, defScope st_one_paced, [], []⟩
def dd_law_hand : He.DefD := ⟨("_law_hand", none), "_law_hand", "_law_hand", defArgs st_law_hand, defBody st_law_hand, defScope st_law_hand, [], []⟩
def dd_law_mixed : He.DefD := ⟨("_law_mixed", none), "_law_mixed", "_law_mixed", defArgs st_law_mixed, defBody st_law_mixed, defScope st_law_mixed, [], []⟩
def dd_law_take : He.DefD := ⟨("_law_take", none), "_law_take", "_law_take", defArgs st_law_take, defBody st_law_take, defScope st_law_take, [], []⟩
def dd_law_chart : He.DefD := ⟨("_law_chart", none), "_law_chart", "_law_chart", defArgs st_law_chart, defBody st_law_chart, defScope st_law_chart, [], []⟩
def dd_law_renumbered : He.DefD := ⟨("_law_renumbered", none), "_law_renumbered", "_law_renumbered", defArgs st_law_renumbered, defBody st_law_renumbered, defScope st_law_renumbered, [], []⟩
def dd_law_costs : He.DefD := ⟨("_law_costs", none), "_law_costs", "_law_costs", defArgs st_law_costs, defBody st_law_costs, defScope st_law_costs, [], []⟩
def dd_law_lot : He.DefD := ⟨("_law_lot", none), "_law_lot", "_law_lot", defArgs st_law_lot, defBody st_law_lot, defScope st_law_lot, [], []⟩
def dd_law_run : He.DefD := ⟨("_law_run", none), "_law_run", "_law_run", defArgs st_law_run, defBody st_law_run, defScope st_law_run, [], []⟩
def dd_law_places : He.DefD := ⟨("_law_places", none), "_law_places", "_law_places", defArgs st_law_places, defBody st_law_places, defScope st_law_places, [], []⟩
def dd_law_used : He.DefD := ⟨("_law_used", none), "_law_used", "_law_used", defArgs st_law_used, defBody st_law_used, defScope st_law_used, [], []⟩
def dd_law_plain : He.DefD := ⟨("_law_plain", none), "_law_plain", "_law_plain", defArgs st_law_plain, defBody st_law_plain, defScope st_law_plain, [], []⟩
def dd_law_least : He.DefD := ⟨("_law_least", none), "_law_least", "_law_least", defArgs st_law_least, defBody st_law_least, defScope st_law_least, [], []⟩
def dd_law_charges : He.DefD := ⟨("_law_charges", none), "_law_charges", "_law_charges", defArgs st_law_charges, defBody st_law_charges, defScope st_law_charges, [], []⟩
def dd_law_even_lot : He.DefD := ⟨("_law_even_lot", none), "_law_even_lot", "_law_even_lot", defArgs st_law_even_lot, defBody st_law_even_lot, defScope st_law_even_lot, [], []⟩
def dd_law_meter : He.DefD := ⟨("_law_meter", none), "_law_meter", "_law_meter", defArgs st_law_meter, defBody st_law_meter, defScope st_law_meter, [], []⟩
def dd_law_lists : He.DefD := ⟨("_law_lists", none), "_law_lists", "_law_lists", defArgs st_law_lists, defBody st_law_lists, defScope st_law_lists, [], []⟩
def dd_law_world : He.DefD := ⟨("_law_world", none), "_law_world", "_law_world", defArgs st_law_world, defBody st_law_world, defScope st_law_world, [], []⟩
def dd_law_one : He.DefD := ⟨("_law_one", none), "_law_one", "_law_one", defArgs st_law_one, defBody st_law_one, defScope st_law_one, [], []⟩
def dd_law_limits : He.DefD := ⟨("_law_limits", none), "_law_limits", "_law_limits", defArgs st_law_limits, defBody st_law_limits, defScope st_law_limits, [], []⟩
def dd_law_some : He.DefD := ⟨("_law_some", none), "_law_some", "_law_some", defArgs st_law_some, defBody st_law_some, defScope st_law_some, [], []⟩
def dd_law_whole : He.DefD := ⟨("_law_whole", none), "_law_whole", "_law_whole", defArgs st_law_whole, defBody st_law_whole, defScope st_law_whole, [], []⟩
def dd_law : He.DefD := ⟨("law", none), "law", "law", defArgs st_law, defBody st_law, defScope st_law, [], []⟩
def hfn : List He.DefD := [dd_is_whole, dd_is_row, dd_reached_places, dd_chart_init, dd_meter_init, dd_stop_init, dd_arrow_gain, dd_rest_rows, dd_can_drift, dd_least_ring, dd_first_drift, dd_find_drift, dd_find_fall, dd_find_rise, dd_check_run, dd_places_of, dd_used_row, dd_lead_rows, dd_extreme_worths, dd_low_leads, dd_high_leads, dd_even_leads, dd_check_limit, dd_good_leads, dd_plain_stop, dd_one_paced, dd_law_hand, dd_law_mixed, dd_law_take, dd_law_chart, dd_law_renumbered, dd_law_costs, dd_law_lot, dd_law_run, dd_law_places, dd_law_used, dd_law_plain, dd_law_least, dd_law_charges, dd_law_even_lot, dd_law_meter, dd_law_lists, dd_law_world, dd_law_one, dd_law_limits, dd_law_some, dd_law_whole, dd_law]
def hfa : List He.Fa := [.glo "is_whole", .glo "is_row", .glo "reached_places", .glo "arrow_gain", .glo "rest_rows", .glo "can_drift", .glo "least_ring", .glo "first_drift", .glo "find_drift", .glo "find_fall", .glo "find_rise", .glo "check_run", .glo "places_of", .glo "used_row", .glo "lead_rows", .glo "extreme_worths", .glo "low_leads", .glo "high_leads", .glo "even_leads", .glo "check_limit", .glo "good_leads", .glo "plain_stop", .glo "one_paced", .glo "_law_hand", .glo "_law_mixed", .glo "_law_take", .glo "_law_chart", .glo "_law_renumbered", .glo "_law_costs", .glo "_law_lot", .glo "_law_run", .glo "_law_places", .glo "_law_used", .glo "_law_plain", .glo "_law_least", .glo "_law_charges", .glo "_law_even_lot", .glo "_law_meter", .glo "_law_lists", .glo "_law_world", .glo "_law_one", .glo "_law_limits", .glo "_law_some", .glo "_law_whole", .glo "law", .glo "Chart", .cls "Chart", .mkr "Chart", .glo "Meter", .cls "Meter", .mkr "Meter", .glo "Stop", .cls "Stop", .mkr "Stop", .noat "Chart" "costs", .noat "Chart" "arrows", .noat "Meter" "chart", .noat "Meter" "first", .noat "Meter" "charges", .noat "Stop" "places", .noat "Stop" "unused", .free "len", .free "isinstance", .free "int", .free "bool", .free "list", .free "tuple", .free "set", .free "range", .free "enumerate", .free "sorted", .free "sum", .free "max", .free "abs", .free "repr", .int "MOST_CHARGE" 1000000000000, .int "GREATEST_LIMIT" 1000000000000000]
abbrev hk : PySem.W.Hook := He.hookD 4 hfa hfn
def ob (s : PySem.W.SharedT) : He.AlD := He.obsDG 4 hfa hfn (HandSHeadRun.getT s)
theorem ob_eq (s : PySem.W.SharedT) : ob s = hk.obs s.abs := He.obsDG_eq (HandSHeadRun.getT_eq s)
def loose0 : List PySem.Str := ["_wall", "__name__", "MeterError", "BadChart", "BadPlace", "BadRun", "BadMeter", "Unlike", "Drifting", "BadLimit", "NotMetered", "is_whole", "is_row", "check_place", "reached_places", "Chart", "Drift", "arrow_gain", "rest_rows", "can_drift", "least_ring", "first_drift", "find_drift", "find_fall", "find_rise", "check_run", "places_of", "used_row", "run_to", "lead_rows"]
def loose1 : List PySem.Str := ["extreme_worths", "low_leads", "high_leads", "least_walk", "extreme_run", "find_low_run", "find_high_run", "Uneven", "even_leads", "GREATEST_LIMIT", "Stop", "check_limit", "good_leads", "plain_stop", "one_paced", "MOST_CHARGE", "Meter", "_law_hand", "_law_mixed", "_law_take", "_law_chart", "_law_renumbered", "_law_costs", "_law_lot", "_law_run", "_law_places", "_law_used", "_law_plain", "_law_least", "_law_charges"]
def loose2 : List PySem.Str := ["_law_even_lot", "_law_meter", "_law_lists", "_law_world", "_law_one", "_law_limits", "_law_some", "_law_whole"]
def loose : List PySem.Str := loose0 ++ loose1 ++ loose2
theorem run (w : World) : HandSHeadRun.RunEq RR (PySem.W.view RR.prog [77]) hk ob 6000 loose w := by
  intro os
  kernel_rfl
end PA
namespace PA
open PySem PySem.Spec PyProof.Rows L2
structure Facts (K : PySem.W.Frag) (mg : Str → Option Value) (C : Cs) : Prop where
  bl : Bl mg
  tx : Tx K C.c C.m C.s
  d_is_whole : Df K mg "is_whole" st_is_whole ["thing", "low", "high"]
  d_is_row : Df K mg "is_row" st_is_row ["thing", "least", "most"]
  d_reached_places : Df K mg "reached_places" st_reached_places ["many", "arrows"]
  d_chart_init : Dc K mg "Chart" "Chart.__init__" C.c st_chart_init ["self", "costs", "arrows"]
  d_meter_init : Dc K mg "Meter" "Meter.__init__" C.m st_meter_init ["self", "chart", "first", "charges"]
  d_stop_init : Dc K mg "Stop" "Stop.__init__" C.s st_stop_init ["self", "places", "unused"]
  d_arrow_gain : Df K mg "arrow_gain" st_arrow_gain ["meter", "arrow"]
  d_rest_rows : Df K mg "rest_rows" st_rest_rows ["meter", "last_row", "lowest", "length", "sense"]
  d_can_drift : Df K mg "can_drift" st_can_drift ["tables", "place", "left", "gained"]
  d_least_ring : Df K mg "least_ring" st_least_ring ["meter", "tables", "start", "length"]
  d_first_drift : Df K mg "first_drift" st_first_drift ["meter", "senses"]
  d_find_drift : Df K mg "find_drift" st_find_drift ["meter"]
  d_find_fall : Df K mg "find_fall" st_find_fall ["meter"]
  d_find_rise : Df K mg "find_rise" st_find_rise ["meter"]
  d_check_run : Df K mg "check_run" st_check_run ["chart", "run"]
  d_places_of : Df K mg "places_of" st_places_of ["chart", "run"]
  d_used_row : Df K mg "used_row" st_used_row ["chart", "run"]
  d_lead_rows : Df K mg "lead_rows" st_lead_rows ["meter", "sense"]
  d_extreme_worths : Df K mg "extreme_worths" st_extreme_worths ["meter", "sense"]
  d_low_leads : Df K mg "low_leads" st_low_leads ["meter"]
  d_high_leads : Df K mg "high_leads" st_high_leads ["meter"]
  d_even_leads : Df K mg "even_leads" st_even_leads ["meter"]
  d_check_limit : Df K mg "check_limit" st_check_limit ["limit"]
  d_good_leads : Df K mg "good_leads" st_good_leads ["meter"]
  d_plain_stop : Df K mg "plain_stop" st_plain_stop ["chart", "run", "limit"]
  d_one_paced : Df K mg "one_paced" st_one_paced ["meter", "run", "limit"]
  d_law_hand : Df K mg "_law_hand" st_law_hand ["_law_script"]
  d_law_mixed : Df K mg "_law_mixed" st_law_mixed ["_law_number", "_law_turn"]
  d_law_take : Df K mg "_law_take" st_law_take ["_law_hand_here", "_law_many"]
  d_law_chart : Df K mg "_law_chart" st_law_chart ["_law_hand_here", "_law_most", "_law_more"]
  d_law_renumbered : Df K mg "_law_renumbered" st_law_renumbered ["_law_hand_here", "_law_many", "_law_arrows"]
  d_law_costs : Df K mg "_law_costs" st_law_costs ["_law_hand_here", "_law_many"]
  d_law_lot : Df K mg "_law_lot" st_law_lot ["_law_hand_here", "_law_arrows", "_law_dense"]
  d_law_run : Df K mg "_law_run" st_law_run ["_law_hand_here", "_law_arrows", "_law_most"]
  d_law_places : Df K mg "_law_places" st_law_places ["_law_arrows", "_law_run_here"]
  d_law_used : Df K mg "_law_used" st_law_used ["_law_costs_here", "_law_arrows", "_law_run_here"]
  d_law_plain : Df K mg "_law_plain" st_law_plain ["_law_costs_here", "_law_arrows", "_law_run_here", "_law_limit"]
  d_law_least : Df K mg "_law_least" st_law_least ["_law_costs_here", "_law_arrows", "_law_lot_here", "_law_floors"]
  d_law_charges : Df K mg "_law_charges" st_law_charges ["_law_costs_here", "_law_arrows", "_law_leads"]
  d_law_even_lot : Df K mg "_law_even_lot" st_law_even_lot ["_law_hand_here", "_law_costs_here", "_law_arrows", "_law_dense"]
  d_law_meter : Df K mg "_law_meter" st_law_meter ["_law_hand_here", "_law_costs_here", "_law_arrows", "_law_dense"]
  d_law_lists : Df K mg "_law_lists" st_law_lists ["_law_hand_here", "_law_thing"]
  d_law_world : Df K mg "_law_world" st_law_world ["_law_hand_here", "_law_most", "_law_more", "_law_large"]
  d_law_one : Df K mg "_law_one" st_law_one ["_law_costs_here", "_law_arrows", "_law_first", "_law_charges_here", "_law_run_here", "_law_limit"]
  d_law_limits : Df K mg "_law_limits" st_law_limits ["_law_costs_here", "_law_arrows", "_law_first", "_law_charges_here", "_law_gates", "_law_run_here"]
  d_law_some : Df K mg "_law_some" st_law_some ["_law_hand_here", "_law_things", "_law_many"]
  d_law_whole : Df K mg "_law_whole" st_law_whole ["_law_thing", "_law_low", "_law_high"]
  d_law : ∃ (f : Addr) (fd : FuncData), FnP K "law" "law" st_law f fd ∧ mg "law" = some (.ref f) ∧ ∀ (s : Shared) (v : Value), BindsTo s fd ⟨[v], []⟩ [("_law_script", v)]
theorem facts {K : PySem.W.Frag} {h : Heap} {mg : Str → Option Value} (X : K.In h) (G : h.Ns mainGlobals mg) (c : He.SaysD hfa hfn K) : Facts K mg ⟨He.ga K "Chart", He.ga K "Meter", He.ga K "Stop"⟩ where
  bl := {
    b_len := He.free_ok X G (c.fact 61 (f := .free "len") rfl)
    b_isinstance := He.free_ok X G (c.fact 62 (f := .free "isinstance") rfl)
    b_int := He.free_ok X G (c.fact 63 (f := .free "int") rfl)
    b_bool := He.free_ok X G (c.fact 64 (f := .free "bool") rfl)
    b_list := He.free_ok X G (c.fact 65 (f := .free "list") rfl)
    b_tuple := He.free_ok X G (c.fact 66 (f := .free "tuple") rfl)
    b_set := He.free_ok X G (c.fact 67 (f := .free "set") rfl)
    b_range := He.free_ok X G (c.fact 68 (f := .free "range") rfl)
    b_enumerate := He.free_ok X G (c.fact 69 (f := .free "enumerate") rfl)
    b_sorted := He.free_ok X G (c.fact 70 (f := .free "sorted") rfl)
    b_sum := He.free_ok X G (c.fact 71 (f := .free "sum") rfl)
    b_max := He.free_ok X G (c.fact 72 (f := .free "max") rfl)
    b_abs := He.free_ok X G (c.fact 73 (f := .free "abs") rfl)
    b_repr := He.free_ok X G (c.fact 74 (f := .free "repr") rfl)
    most := let ⟨t, e⟩ := He.int_ok X G (c.fact 75 (f := .int "MOST_CHARGE" 1000000000000) rfl); ⟨_, e, ⟨t, rfl⟩⟩
    great := let ⟨t, e⟩ := He.int_ok X G (c.fact 76 (f := .int "GREATEST_LIMIT" 1000000000000000) rfl); ⟨_, e, ⟨t, rfl⟩⟩ }
  tx := {
    c := He.cls_ok (c.fact 46 (f := .cls "Chart") rfl)
    m := He.cls_ok (c.fact 49 (f := .cls "Meter") rfl)
    s := He.cls_ok (c.fact 52 (f := .cls "Stop") rfl)
    c_costs := He.noat_ok (c.fact 54 (f := .noat "Chart" "costs") rfl)
    c_arrows := He.noat_ok (c.fact 55 (f := .noat "Chart" "arrows") rfl)
    m_chart := He.noat_ok (c.fact 56 (f := .noat "Meter" "chart") rfl)
    m_first := He.noat_ok (c.fact 57 (f := .noat "Meter" "first") rfl)
    m_charges := He.noat_ok (c.fact 58 (f := .noat "Meter" "charges") rfl)
    s_places := He.noat_ok (c.fact 59 (f := .noat "Stop" "places") rfl)
    s_unused := He.noat_ok (c.fact 60 (f := .noat "Stop" "unused") rfl) }
  d_is_whole := by
    obtain ⟨fd, F⟩ := c.def_ 0 (d := dd_is_whole) rfl
    exact ⟨_, fd, F, He.glo_ok X G (c.fact 0 (f := .glo "is_whole") rfl), FunD.bindsN F fun _ _ _ _ _ _ us hl => match us, hl with | [_, _, _], _ => rfl⟩
  d_is_row := by
    obtain ⟨fd, F⟩ := c.def_ 1 (d := dd_is_row) rfl
    exact ⟨_, fd, F, He.glo_ok X G (c.fact 1 (f := .glo "is_row") rfl), FunD.bindsN F fun _ _ _ _ _ _ us hl => match us, hl with | [_, _, _], _ => rfl⟩
  d_reached_places := by
    obtain ⟨fd, F⟩ := c.def_ 2 (d := dd_reached_places) rfl
    exact ⟨_, fd, F, He.glo_ok X G (c.fact 2 (f := .glo "reached_places") rfl), FunD.bindsN F fun _ _ _ _ _ _ us hl => match us, hl with | [_, _], _ => rfl⟩
  d_chart_init := by
    obtain ⟨fd, F⟩ := c.def_ 3 (d := dd_chart_init) rfl
    exact ⟨⟨_, fd, F, He.mkr_ok (c.fact 47 (f := .mkr "Chart") rfl), He.glo_ok X G (c.fact 45 (f := .glo "Chart") rfl), FunD.bindsN F fun _ _ _ _ _ _ us hl => match us, hl with | [_, _, _], _ => rfl⟩, He.cls_ok (c.fact 46 (f := .cls "Chart") rfl)⟩
  d_meter_init := by
    obtain ⟨fd, F⟩ := c.def_ 4 (d := dd_meter_init) rfl
    exact ⟨⟨_, fd, F, He.mkr_ok (c.fact 50 (f := .mkr "Meter") rfl), He.glo_ok X G (c.fact 48 (f := .glo "Meter") rfl), FunD.bindsN F fun _ _ _ _ _ _ us hl => match us, hl with | [_, _, _, _], _ => rfl⟩, He.cls_ok (c.fact 49 (f := .cls "Meter") rfl)⟩
  d_stop_init := by
    obtain ⟨fd, F⟩ := c.def_ 5 (d := dd_stop_init) rfl
    exact ⟨⟨_, fd, F, He.mkr_ok (c.fact 53 (f := .mkr "Stop") rfl), He.glo_ok X G (c.fact 51 (f := .glo "Stop") rfl), FunD.bindsN F fun _ _ _ _ _ _ us hl => match us, hl with | [_, _, _], _ => rfl⟩, He.cls_ok (c.fact 52 (f := .cls "Stop") rfl)⟩
  d_arrow_gain := by
    obtain ⟨fd, F⟩ := c.def_ 6 (d := dd_arrow_gain) rfl
    exact ⟨_, fd, F, He.glo_ok X G (c.fact 3 (f := .glo "arrow_gain") rfl), FunD.bindsN F fun _ _ _ _ _ _ us hl => match us, hl with | [_, _], _ => rfl⟩
  d_rest_rows := by
    obtain ⟨fd, F⟩ := c.def_ 7 (d := dd_rest_rows) rfl
    exact ⟨_, fd, F, He.glo_ok X G (c.fact 4 (f := .glo "rest_rows") rfl), FunD.bindsN F fun _ _ _ _ _ _ us hl => match us, hl with | [_, _, _, _, _], _ => rfl⟩
  d_can_drift := by
    obtain ⟨fd, F⟩ := c.def_ 8 (d := dd_can_drift) rfl
    exact ⟨_, fd, F, He.glo_ok X G (c.fact 5 (f := .glo "can_drift") rfl), FunD.bindsN F fun _ _ _ _ _ _ us hl => match us, hl with | [_, _, _, _], _ => rfl⟩
  d_least_ring := by
    obtain ⟨fd, F⟩ := c.def_ 9 (d := dd_least_ring) rfl
    exact ⟨_, fd, F, He.glo_ok X G (c.fact 6 (f := .glo "least_ring") rfl), FunD.bindsN F fun _ _ _ _ _ _ us hl => match us, hl with | [_, _, _, _], _ => rfl⟩
  d_first_drift := by
    obtain ⟨fd, F⟩ := c.def_ 10 (d := dd_first_drift) rfl
    exact ⟨_, fd, F, He.glo_ok X G (c.fact 7 (f := .glo "first_drift") rfl), FunD.bindsN F fun _ _ _ _ _ _ us hl => match us, hl with | [_, _], _ => rfl⟩
  d_find_drift := by
    obtain ⟨fd, F⟩ := c.def_ 11 (d := dd_find_drift) rfl
    exact ⟨_, fd, F, He.glo_ok X G (c.fact 8 (f := .glo "find_drift") rfl), FunD.bindsN F fun _ _ _ _ _ _ us hl => match us, hl with | [_], _ => rfl⟩
  d_find_fall := by
    obtain ⟨fd, F⟩ := c.def_ 12 (d := dd_find_fall) rfl
    exact ⟨_, fd, F, He.glo_ok X G (c.fact 9 (f := .glo "find_fall") rfl), FunD.bindsN F fun _ _ _ _ _ _ us hl => match us, hl with | [_], _ => rfl⟩
  d_find_rise := by
    obtain ⟨fd, F⟩ := c.def_ 13 (d := dd_find_rise) rfl
    exact ⟨_, fd, F, He.glo_ok X G (c.fact 10 (f := .glo "find_rise") rfl), FunD.bindsN F fun _ _ _ _ _ _ us hl => match us, hl with | [_], _ => rfl⟩
  d_check_run := by
    obtain ⟨fd, F⟩ := c.def_ 14 (d := dd_check_run) rfl
    exact ⟨_, fd, F, He.glo_ok X G (c.fact 11 (f := .glo "check_run") rfl), FunD.bindsN F fun _ _ _ _ _ _ us hl => match us, hl with | [_, _], _ => rfl⟩
  d_places_of := by
    obtain ⟨fd, F⟩ := c.def_ 15 (d := dd_places_of) rfl
    exact ⟨_, fd, F, He.glo_ok X G (c.fact 12 (f := .glo "places_of") rfl), FunD.bindsN F fun _ _ _ _ _ _ us hl => match us, hl with | [_, _], _ => rfl⟩
  d_used_row := by
    obtain ⟨fd, F⟩ := c.def_ 16 (d := dd_used_row) rfl
    exact ⟨_, fd, F, He.glo_ok X G (c.fact 13 (f := .glo "used_row") rfl), FunD.bindsN F fun _ _ _ _ _ _ us hl => match us, hl with | [_, _], _ => rfl⟩
  d_lead_rows := by
    obtain ⟨fd, F⟩ := c.def_ 17 (d := dd_lead_rows) rfl
    exact ⟨_, fd, F, He.glo_ok X G (c.fact 14 (f := .glo "lead_rows") rfl), FunD.bindsN F fun _ _ _ _ _ _ us hl => match us, hl with | [_, _], _ => rfl⟩
  d_extreme_worths := by
    obtain ⟨fd, F⟩ := c.def_ 18 (d := dd_extreme_worths) rfl
    exact ⟨_, fd, F, He.glo_ok X G (c.fact 15 (f := .glo "extreme_worths") rfl), FunD.bindsN F fun _ _ _ _ _ _ us hl => match us, hl with | [_, _], _ => rfl⟩
  d_low_leads := by
    obtain ⟨fd, F⟩ := c.def_ 19 (d := dd_low_leads) rfl
    exact ⟨_, fd, F, He.glo_ok X G (c.fact 16 (f := .glo "low_leads") rfl), FunD.bindsN F fun _ _ _ _ _ _ us hl => match us, hl with | [_], _ => rfl⟩
  d_high_leads := by
    obtain ⟨fd, F⟩ := c.def_ 20 (d := dd_high_leads) rfl
    exact ⟨_, fd, F, He.glo_ok X G (c.fact 17 (f := .glo "high_leads") rfl), FunD.bindsN F fun _ _ _ _ _ _ us hl => match us, hl with | [_], _ => rfl⟩
  d_even_leads := by
    obtain ⟨fd, F⟩ := c.def_ 21 (d := dd_even_leads) rfl
    exact ⟨_, fd, F, He.glo_ok X G (c.fact 18 (f := .glo "even_leads") rfl), FunD.bindsN F fun _ _ _ _ _ _ us hl => match us, hl with | [_], _ => rfl⟩
  d_check_limit := by
    obtain ⟨fd, F⟩ := c.def_ 22 (d := dd_check_limit) rfl
    exact ⟨_, fd, F, He.glo_ok X G (c.fact 19 (f := .glo "check_limit") rfl), FunD.bindsN F fun _ _ _ _ _ _ us hl => match us, hl with | [_], _ => rfl⟩
  d_good_leads := by
    obtain ⟨fd, F⟩ := c.def_ 23 (d := dd_good_leads) rfl
    exact ⟨_, fd, F, He.glo_ok X G (c.fact 20 (f := .glo "good_leads") rfl), FunD.bindsN F fun _ _ _ _ _ _ us hl => match us, hl with | [_], _ => rfl⟩
  d_plain_stop := by
    obtain ⟨fd, F⟩ := c.def_ 24 (d := dd_plain_stop) rfl
    exact ⟨_, fd, F, He.glo_ok X G (c.fact 21 (f := .glo "plain_stop") rfl), FunD.bindsN F fun _ _ _ _ _ _ us hl => match us, hl with | [_, _, _], _ => rfl⟩
  d_one_paced := by
    obtain ⟨fd, F⟩ := c.def_ 25 (d := dd_one_paced) rfl
    exact ⟨_, fd, F, He.glo_ok X G (c.fact 22 (f := .glo "one_paced") rfl), FunD.bindsN F fun _ _ _ _ _ _ us hl => match us, hl with | [_, _, _], _ => rfl⟩
  d_law_hand := by
    obtain ⟨fd, F⟩ := c.def_ 26 (d := dd_law_hand) rfl
    exact ⟨_, fd, F, He.glo_ok X G (c.fact 23 (f := .glo "_law_hand") rfl), FunD.bindsN F fun _ _ _ _ _ _ us hl => match us, hl with | [_], _ => rfl⟩
  d_law_mixed := by
    obtain ⟨fd, F⟩ := c.def_ 27 (d := dd_law_mixed) rfl
    exact ⟨_, fd, F, He.glo_ok X G (c.fact 24 (f := .glo "_law_mixed") rfl), FunD.bindsN F fun _ _ _ _ _ _ us hl => match us, hl with | [_, _], _ => rfl⟩
  d_law_take := by
    obtain ⟨fd, F⟩ := c.def_ 28 (d := dd_law_take) rfl
    exact ⟨_, fd, F, He.glo_ok X G (c.fact 25 (f := .glo "_law_take") rfl), FunD.bindsN F fun _ _ _ _ _ _ us hl => match us, hl with | [_, _], _ => rfl⟩
  d_law_chart := by
    obtain ⟨fd, F⟩ := c.def_ 29 (d := dd_law_chart) rfl
    exact ⟨_, fd, F, He.glo_ok X G (c.fact 26 (f := .glo "_law_chart") rfl), FunD.bindsN F fun _ _ _ _ _ _ us hl => match us, hl with | [_, _, _], _ => rfl⟩
  d_law_renumbered := by
    obtain ⟨fd, F⟩ := c.def_ 30 (d := dd_law_renumbered) rfl
    exact ⟨_, fd, F, He.glo_ok X G (c.fact 27 (f := .glo "_law_renumbered") rfl), FunD.bindsN F fun _ _ _ _ _ _ us hl => match us, hl with | [_, _, _], _ => rfl⟩
  d_law_costs := by
    obtain ⟨fd, F⟩ := c.def_ 31 (d := dd_law_costs) rfl
    exact ⟨_, fd, F, He.glo_ok X G (c.fact 28 (f := .glo "_law_costs") rfl), FunD.bindsN F fun _ _ _ _ _ _ us hl => match us, hl with | [_, _], _ => rfl⟩
  d_law_lot := by
    obtain ⟨fd, F⟩ := c.def_ 32 (d := dd_law_lot) rfl
    exact ⟨_, fd, F, He.glo_ok X G (c.fact 29 (f := .glo "_law_lot") rfl), FunD.bindsN F fun _ _ _ _ _ _ us hl => match us, hl with | [_, _, _], _ => rfl⟩
  d_law_run := by
    obtain ⟨fd, F⟩ := c.def_ 33 (d := dd_law_run) rfl
    exact ⟨_, fd, F, He.glo_ok X G (c.fact 30 (f := .glo "_law_run") rfl), FunD.bindsN F fun _ _ _ _ _ _ us hl => match us, hl with | [_, _, _], _ => rfl⟩
  d_law_places := by
    obtain ⟨fd, F⟩ := c.def_ 34 (d := dd_law_places) rfl
    exact ⟨_, fd, F, He.glo_ok X G (c.fact 31 (f := .glo "_law_places") rfl), FunD.bindsN F fun _ _ _ _ _ _ us hl => match us, hl with | [_, _], _ => rfl⟩
  d_law_used := by
    obtain ⟨fd, F⟩ := c.def_ 35 (d := dd_law_used) rfl
    exact ⟨_, fd, F, He.glo_ok X G (c.fact 32 (f := .glo "_law_used") rfl), FunD.bindsN F fun _ _ _ _ _ _ us hl => match us, hl with | [_, _, _], _ => rfl⟩
  d_law_plain := by
    obtain ⟨fd, F⟩ := c.def_ 36 (d := dd_law_plain) rfl
    exact ⟨_, fd, F, He.glo_ok X G (c.fact 33 (f := .glo "_law_plain") rfl), FunD.bindsN F fun _ _ _ _ _ _ us hl => match us, hl with | [_, _, _, _], _ => rfl⟩
  d_law_least := by
    obtain ⟨fd, F⟩ := c.def_ 37 (d := dd_law_least) rfl
    exact ⟨_, fd, F, He.glo_ok X G (c.fact 34 (f := .glo "_law_least") rfl), FunD.bindsN F fun _ _ _ _ _ _ us hl => match us, hl with | [_, _, _, _], _ => rfl⟩
  d_law_charges := by
    obtain ⟨fd, F⟩ := c.def_ 38 (d := dd_law_charges) rfl
    exact ⟨_, fd, F, He.glo_ok X G (c.fact 35 (f := .glo "_law_charges") rfl), FunD.bindsN F fun _ _ _ _ _ _ us hl => match us, hl with | [_, _, _], _ => rfl⟩
  d_law_even_lot := by
    obtain ⟨fd, F⟩ := c.def_ 39 (d := dd_law_even_lot) rfl
    exact ⟨_, fd, F, He.glo_ok X G (c.fact 36 (f := .glo "_law_even_lot") rfl), FunD.bindsN F fun _ _ _ _ _ _ us hl => match us, hl with | [_, _, _, _], _ => rfl⟩
  d_law_meter := by
    obtain ⟨fd, F⟩ := c.def_ 40 (d := dd_law_meter) rfl
    exact ⟨_, fd, F, He.glo_ok X G (c.fact 37 (f := .glo "_law_meter") rfl), FunD.bindsN F fun _ _ _ _ _ _ us hl => match us, hl with | [_, _, _, _], _ => rfl⟩
  d_law_lists := by
    obtain ⟨fd, F⟩ := c.def_ 41 (d := dd_law_lists) rfl
    exact ⟨_, fd, F, He.glo_ok X G (c.fact 38 (f := .glo "_law_lists") rfl), FunD.bindsN F fun _ _ _ _ _ _ us hl => match us, hl with | [_, _], _ => rfl⟩
  d_law_world := by
    obtain ⟨fd, F⟩ := c.def_ 42 (d := dd_law_world) rfl
    exact ⟨_, fd, F, He.glo_ok X G (c.fact 39 (f := .glo "_law_world") rfl), FunD.bindsN F fun _ _ _ _ _ _ us hl => match us, hl with | [_, _, _, _], _ => rfl⟩
  d_law_one := by
    obtain ⟨fd, F⟩ := c.def_ 43 (d := dd_law_one) rfl
    exact ⟨_, fd, F, He.glo_ok X G (c.fact 40 (f := .glo "_law_one") rfl), FunD.bindsN F fun _ _ _ _ _ _ us hl => match us, hl with | [_, _, _, _, _, _], _ => rfl⟩
  d_law_limits := by
    obtain ⟨fd, F⟩ := c.def_ 44 (d := dd_law_limits) rfl
    exact ⟨_, fd, F, He.glo_ok X G (c.fact 41 (f := .glo "_law_limits") rfl), FunD.bindsN F fun _ _ _ _ _ _ us hl => match us, hl with | [_, _, _, _, _, _], _ => rfl⟩
  d_law_some := by
    obtain ⟨fd, F⟩ := c.def_ 45 (d := dd_law_some) rfl
    exact ⟨_, fd, F, He.glo_ok X G (c.fact 42 (f := .glo "_law_some") rfl), FunD.bindsN F fun _ _ _ _ _ _ us hl => match us, hl with | [_, _, _], _ => rfl⟩
  d_law_whole := by
    obtain ⟨fd, F⟩ := c.def_ 46 (d := dd_law_whole) rfl
    exact ⟨_, fd, F, He.glo_ok X G (c.fact 43 (f := .glo "_law_whole") rfl), FunD.bindsN F fun _ _ _ _ _ _ us hl => match us, hl with | [_, _, _], _ => rfl⟩
  d_law := by
    obtain ⟨fd, F⟩ := c.def_ 47 (d := dd_law) rfl
    have b := FunD.bindsA (ps := ["_law_script"]) F fun _ _ _ _ _ _ us hl => match us, hl with | [_], _ => rfl
    exact ⟨_, fd, F, He.glo_ok X G (c.fact 44 (f := .glo "law") rfl), fun s v => b s [v] rfl⟩
theorem law_reads {P : Program} {w : World} {K : PySem.W.Frag} {mg : Str → Option Value} {base : Heap} {C : Cs} (Fs : Facts K mg C) (f : Addr) (cdv : Value) (A : Around) (s : Shared) (H : Hp) (vs : List V) (Q : VK) (E : XK) (hr : Room 9 (A.deeper (envOfC "law" (defScope st_law) s.heap.objs.size f cdv))) (hgd : (A.deeper (envOfC "law" (defScope st_law) s.heap.objs.size f cdv)).guards = some []) (h : sp_law K vs H Q E) : ∃ t, PSs (cxOf CX0 P w K mg base ["_law_script", "_law_hand_here", "_law_chart_here", "_law_meter_here", "_law_run_here", "_law_passed", "_law_kept", "_law_limits_here", "_law_limit", "_law_costs_here", "_law_arrows", "_law_first", "_law_charges_here", "_law_leads", "_law_told", "_law_used_here", "_law_places_here", "_law_unused", "_law_stopped"] "law" (defScope st_law) f cdv A [] s H E) (defBody st_law) t ∧ t { nx := fun _ H' => Q .non H', rt := Q } (start ["_law_script", "_law_hand_here", "_law_chart_here", "_law_meter_here", "_law_run_here", "_law_passed", "_law_kept", "_law_limits_here", "_law_limit", "_law_costs_here", "_law_arrows", "_law_first", "_law_charges_here", "_law_leads", "_law_told", "_law_used_here", "_law_places_here", "_law_unused", "_law_stopped"] vs) H := by
  have c_is_whole := cal_is_whole (P := P) (w := w) (base := base) Fs.bl Fs.tx  Fs.d_is_whole
  have c_is_row := cal_is_row (P := P) (w := w) (base := base) Fs.bl Fs.tx  Fs.d_is_row
  have c_reached_places := cal_reached_places (P := P) (w := w) (base := base) Fs.bl Fs.tx  Fs.d_reached_places
  have m_stop := cal_stop_init (P := P) (w := w) (base := base) Fs.bl Fs.tx  Fs.d_stop_init
  have c_arrow_gain := cal_arrow_gain (P := P) (w := w) (base := base) Fs.bl Fs.tx  Fs.d_arrow_gain
  have c_can_drift := cal_can_drift (P := P) (w := w) (base := base) Fs.bl Fs.tx  Fs.d_can_drift
  have c_law_hand := cal_law_hand (P := P) (w := w) (base := base) Fs.bl Fs.tx  Fs.d_law_hand
  have c_law_mixed := cal_law_mixed (P := P) (w := w) (base := base) Fs.bl Fs.tx  Fs.d_law_mixed
  have c_law_places := cal_law_places (P := P) (w := w) (base := base) Fs.bl Fs.tx  Fs.d_law_places
  have c_law_least := cal_law_least (P := P) (w := w) (base := base) Fs.bl Fs.tx  Fs.d_law_least
  have c_law_charges := cal_law_charges (P := P) (w := w) (base := base) Fs.bl Fs.tx  Fs.d_law_charges
  have c_law_one := cal_law_one (P := P) (w := w) (base := base) Fs.bl Fs.tx  Fs.d_law_one
  have c_law_limits := cal_law_limits (P := P) (w := w) (base := base) Fs.bl Fs.tx  Fs.d_law_limits
  have c_law_whole := cal_law_whole (P := P) (w := w) (base := base) Fs.bl Fs.tx  Fs.d_law_whole
  have m_chart := cal_chart_init (P := P) (w := w) (base := base) Fs.bl Fs.tx c_is_row c_is_whole c_reached_places Fs.d_chart_init
  have m_meter := cal_meter_init (P := P) (w := w) (base := base) Fs.bl Fs.tx c_is_row c_is_whole Fs.d_meter_init
  have c_rest_rows := cal_rest_rows (P := P) (w := w) (base := base) Fs.bl Fs.tx c_arrow_gain Fs.d_rest_rows
  have c_least_ring := cal_least_ring (P := P) (w := w) (base := base) Fs.bl Fs.tx c_can_drift Fs.d_least_ring
  have c_check_run := cal_check_run (P := P) (w := w) (base := base) Fs.bl Fs.tx c_is_row c_is_whole Fs.d_check_run
  have c_lead_rows := cal_lead_rows (P := P) (w := w) (base := base) Fs.bl Fs.tx c_arrow_gain Fs.d_lead_rows
  have c_check_limit := cal_check_limit (P := P) (w := w) (base := base) Fs.bl Fs.tx c_is_whole Fs.d_check_limit
  have c_law_take := cal_law_take (P := P) (w := w) (base := base) Fs.bl Fs.tx c_law_mixed Fs.d_law_take
  have c_law_used := cal_law_used (P := P) (w := w) (base := base) Fs.bl Fs.tx c_law_places Fs.d_law_used
  have c_law_plain := cal_law_plain (P := P) (w := w) (base := base) Fs.bl Fs.tx c_law_places Fs.d_law_plain
  have c_first_drift := cal_first_drift (P := P) (w := w) (base := base) Fs.bl Fs.tx c_least_ring c_rest_rows Fs.d_first_drift
  have c_places_of := cal_places_of (P := P) (w := w) (base := base) Fs.bl Fs.tx c_check_run Fs.d_places_of
  have c_law_renumbered := cal_law_renumbered (P := P) (w := w) (base := base) Fs.bl Fs.tx c_law_take Fs.d_law_renumbered
  have c_law_costs := cal_law_costs (P := P) (w := w) (base := base) Fs.bl Fs.tx c_law_take Fs.d_law_costs
  have c_law_lot := cal_law_lot (P := P) (w := w) (base := base) Fs.bl Fs.tx c_law_take Fs.d_law_lot
  have c_law_run := cal_law_run (P := P) (w := w) (base := base) Fs.bl Fs.tx c_law_take Fs.d_law_run
  have c_law_lists := cal_law_lists (P := P) (w := w) (base := base) Fs.bl Fs.tx c_law_take Fs.d_law_lists
  have c_law_some := cal_law_some (P := P) (w := w) (base := base) Fs.bl Fs.tx c_law_take Fs.d_law_some
  have c_find_drift := cal_find_drift (P := P) (w := w) (base := base) Fs.bl Fs.tx c_first_drift Fs.d_find_drift
  have c_find_fall := cal_find_fall (P := P) (w := w) (base := base) Fs.bl Fs.tx c_first_drift Fs.d_find_fall
  have c_find_rise := cal_find_rise (P := P) (w := w) (base := base) Fs.bl Fs.tx c_first_drift Fs.d_find_rise
  have c_used_row := cal_used_row (P := P) (w := w) (base := base) Fs.bl Fs.tx c_places_of Fs.d_used_row
  have c_law_chart := cal_law_chart (P := P) (w := w) (base := base) Fs.bl Fs.tx c_law_costs c_law_renumbered c_law_take Fs.d_law_chart
  have c_law_even_lot := cal_law_even_lot (P := P) (w := w) (base := base) Fs.bl Fs.tx c_law_least c_law_lot c_law_take Fs.d_law_even_lot
  have c_extreme_worths := cal_extreme_worths (P := P) (w := w) (base := base) Fs.bl Fs.tx c_find_fall c_find_rise c_lead_rows Fs.d_extreme_worths
  have c_plain_stop := cal_plain_stop (P := P) (w := w) (base := base) Fs.bl Fs.tx c_check_limit c_check_run c_used_row Fs.d_plain_stop
  have c_law_meter := cal_law_meter (P := P) (w := w) (base := base) Fs.bl Fs.tx c_law_charges c_law_even_lot c_law_least c_law_take Fs.d_law_meter
  have c_low_leads := cal_low_leads (P := P) (w := w) (base := base) Fs.bl Fs.tx c_extreme_worths Fs.d_low_leads
  have c_high_leads := cal_high_leads (P := P) (w := w) (base := base) Fs.bl Fs.tx c_extreme_worths Fs.d_high_leads
  have c_law_world := cal_law_world (P := P) (w := w) (base := base) Fs.bl Fs.tx c_law_chart c_law_meter c_law_take Fs.d_law_world
  have c_even_leads := cal_even_leads (P := P) (w := w) (base := base) Fs.bl Fs.tx c_find_drift c_high_leads c_low_leads Fs.d_even_leads
  have c_good_leads := cal_good_leads (P := P) (w := w) (base := base) Fs.bl Fs.tx c_even_leads Fs.d_good_leads
  have c_one_paced := cal_one_paced (P := P) (w := w) (base := base) Fs.bl Fs.tx c_check_limit c_check_run c_good_leads c_used_row m_stop Fs.d_one_paced
  exact (law_body Fs.bl Fs.tx c_law_hand c_law_limits c_law_lists c_law_one c_law_plain c_law_run c_law_some c_law_take c_law_used c_law_whole c_law_world c_one_paced c_plain_stop m_chart m_meter f cdv A s H vs Q E hr hgd h).imp fun t ht => ⟨ht.1.nox, ht.2⟩
end PA
/-! P6: the law's def called where the law's caller stands (what is being shown there is known: nothing; the promise of a def over every surrounding does not tell it). -/
namespace PA
open PySem PySem.Spec PyProof.Rows L2
section
variable {P : Program} {w : World} {K : PySem.W.Frag} {mg mb : Str → Option Value} {base : Heap} {x y : Str} {st : Stmt} {N : List Str} {f a : Addr} {fd : FuncData} {k : Nat} {A : Around} {s : Shared} {H : Hp}
/-- a def of one name is entered from A -/
theorem go_in {u : Value} {v : V} {Q : VK} {E : XK} (D : FnP K x x st f fd) (S : FnScope N [y] (defScope st)) (hr : Room (k + 1) A) (e0 : Env0 P w K mg base A [] s H) (hb : BindsTo s fd ⟨[u], []⟩ [(y, u)]) (r : RelV v u)
    (hbody : ∀ cdv : Value, ∃ t, PSs (cxOf CX0 P w K mg base N x (defScope st) f cdv A [] s H E) (defBody st) t ∧ t { nx := fun _ H' => Q .non H', rt := Q } (start N [v]) H) :
    codeAny (model P w) A (.call (.ref f) ⟨[u], []⟩) (CR CX0 [] P w H s Q E) s := by
  obtain ⟨oc, od, dV, kV, doc, pm, an, cdv, ct, osl, rfl, at_f, at_cd, _, _⟩ := D.ex
  have kept : ∀ b o, base.get? b = some o → s.heap.get? b = some o := fun b o e => (e0.bs b o e).1
  have kin : K.In s.heap := e0.mod.kin.keeps kept
  have nol : s.heap.NoLimit := e0.mod.nolimit.keeps kept
  have kinds : ∀ z ∈ [(y, u)], (defScope st).names.lookup z.1 = some .local ∨ ((defScope st).names.lookup z.1 = some .cell ∧ ((cellsFrom (s.heap.objs.size + 1) (defScope st).names []).lookup z.1).isSome = true) := fun z hz => by
    rw [List.mem_singleton.mp hz]
    exact (S.par y (List.mem_singleton.mpr rfl)).imp id fun c => ⟨c, PySem.W.cellsFrom_some _ _ _ (.inl c)⟩
  refine codeAny_call_function hr.depth (kin _ _ at_f) rfl S.co S.gen rfl (PySem.W.codeRec_of kin at_cd) (hb _ _ _ _ ?_)
  refine wpAny_newFunctionEnv_cells S.kind kinds fun env he s1 into => ?_
  subst he
  obtain ⟨t, walk, fine⟩ := hbody cdv
  refine ⟨nol.keeps into.toInCall.keep, codeAny_func (wpAny_mono (walk.run [] s1 (start N [v]) H _ (inv_start S hr.hd e0 rfl (.cons r .nil) into) fine) (fun fl s2 how => ?_) fun _ _ z => z)⟩
  match fl, how with
  | .ret z, ⟨v', σ', H', J, rv, good⟩ => exact ⟨v', H', J.os, J.bare, J.base, J.hok, rv, good⟩
  | .next, ⟨σ', H', J, good⟩ => exact ⟨V.non, H', J.os, J.bare, J.base, J.hok, rfl, good⟩
  | .brk, ⟨_, _, _, z⟩ => exact z.elim
  | .cont, ⟨_, _, _, z⟩ => exact z.elim
/-- the law's call -/
theorem law_here {vs : List Value} {ns : List Int} (kin : K.In s.heap) (hm : s.heap.Ns mainGlobals mg) (hb : s.heap.Ns builtinsNs mb) (hbb : ∀ z : Str, z ≠ "__name__" → mb z = bootBuiltins z) (nol : s.heap.NoLimit) (hg : s.gens = #[])
    (ha : s.heap.get? a = some { cls := .type "list", data := .seq vs.toArray }) (hi : IntsAre vs ns) (hl : ns.length ≤ sizeLine) (hr : Room (k + 1) callerA) (D : FnP K x x st f fd) (S : FnScope N [y] (defScope st)) (hbind : ∀ u : Value, BindsTo s fd ⟨[u], []⟩ [(y, u)])
    (body : ∀ (base : Heap) (cdv : Value) (H : Hp), SqL K H a (ns.map V.int) → ∃ t, PSs (cxOf CX0 P w K mg base N x (defScope st) f cdv callerA [] s H fun _ _ _ => False) (defBody st) t ∧ t { nx := fun _ _ => V.non = V.bl true, rt := fun v _ => v = V.bl true } (start N [.ref a]) H) :
    codeAny (model P w) callerA (.call (.ref f) ⟨[.ref a], []⟩) (fun r s' => r = .ok (.ret (.bool true)) ∧ OldK s.heap s'.heap ∧ s'.os = s.os ∧ AllBare s'.gens) s := by
  have rv := vals_ints hi
  -- what is tracked: the script, unless it is one of the module's own
  have pick : ∃ H : Hp, SqL K H a (ns.map V.int) ∧ HOk P w H s.heap ∧ ∀ b u, H b = some u → b = a ∧ K.lookup a = none ∧ ∃ o, u = .frz o (.lst (ns.map V.int)) := by
    cases own : K.lookup a with
    | some o =>
      have same := (kin a o own).symm.trans ha
      obtain rfl := Option.some.inj same
      exact ⟨fun _ => none, .inr ⟨_, _, _, own, rfl, rfl, rfl, by rw [List.size_toArray, hi.length]; exact hl, by simpa using rv⟩, fun _ _ z => (nomatch z), fun _ _ z => (nomatch z)⟩
    | none =>
      have one : ∀ {b u}, upd (fun _ => none) a (HO.frz { cls := .type "list", data := .seq vs.toArray } (.lst (ns.map V.int))) b = some u → b = a ∧ u = .frz { cls := .type "list", data := .seq vs.toArray } (.lst (ns.map V.int)) := fun {b u} z => by
        by_cases hba : b = a
        · subst hba
          rw [upd_same] at z
          exact ⟨rfl, (Option.some.inj z).symm⟩
        · rw [upd_ne hba] at z
          cases z
      refine ⟨upd (fun _ => none) a (.frz { cls := .type "list", data := .seq vs.toArray } (.lst (ns.map V.int))), .inl (.inr ⟨_, upd_same⟩), fun b u z => ?_, fun b u z => ⟨(one z).1, rfl, _, (one z).2⟩⟩
      obtain ⟨rfl, rfl⟩ := one z
      exact ⟨ha, by rw [List.length_map]; exact hl, vs, _, rv, ha⟩
  obtain ⟨H, script, hok, only⟩ := pick
  have stay : ∀ {b : Addr} {o : Obj}, s.heap.get? b = some o → (b = a → False) → (hidT s.heap H).get? b = some o := fun {b o} e nb => hidT_get e (by
    cases z : H b with
    | none => rfl
    | some u => exact (nb (only b u z).1).elim)
  have names : ∀ {b : Addr} {m : Str → Option Value}, s.heap.Ns b m → (hidT s.heap H).Ns b m := fun {b m} ⟨o, es, ep, e, d, r⟩ => ⟨o, es, ep, stay e (fun z => by
    subst z
    rw [e] at ha
    obtain rfl := Option.some.inj ha
    cases d), d, r⟩
  have kinT : K.In (hidT s.heap H) := fun b o e => hidT_get (kin b o e) (by
    cases z : H b with
    | none => rfl
    | some u =>
      obtain ⟨rfl, none_, _⟩ := only b u z
      rw [none_] at e
      cases e)
  have top : Env0 P w K mg (hidT s.heap H) callerA [] s H := {
    frames := rfl
    mod := ⟨kinT, names hm, ⟨mb, names hb, hbb⟩, let ⟨mc, h1, h2⟩ := nol; ⟨mc, names h1, h2⟩⟩
    bs := fun _ _ e => of_hidT e
    bsz := Nat.le_of_eq (hidT_size _ _)
    funs := True.intro
    frf := fun b z => (nomatch z)
    hok := hok
    bare := .of_eq hg }
  refine codeAny_mono (go_in (Q := fun v _ => v = V.bl true) (E := fun _ _ _ => False) D S hr top (hbind _) (show RelV (.ref a) (.ref a) from rfl) fun cdv => body _ cdv H script) fun r s' how => ?_
  match r, how with
  | .ok (.ret u), ⟨v, H', os, bare, un, hok', rel, good⟩ =>
    obtain rfl : v = V.bl true := good
    obtain rfl : u = Value.bool true := rel
    refine ⟨rfl, OldK.of_keep fun b o e => ?_, os, bare⟩
    cases z : H b with
    | none => exact un.keep b o e z (by intro q; exact absurd (show b ∈ ([] : List Addr) from q) (by simp)) (by simp)
    | some u =>
      obtain ⟨_, _, ob, rfl⟩ := only b u z
      have before := (hok b _ z).1
      have after := (hok' b _ (un.frzs b ob _ z)).1
      rw [e] at before
      obtain rfl := Option.some.inj before
      exact after
end
end PA
namespace PA
open PySem PySem.W PySem.Calls PyProof.Rows L2
theorem whole_law : PySem.Challenge.rw_purseahead_k35_whole_one_paced_at_all_li.Holds := by
  w_on; o_law
  refine HandSHeadRun.head_any (r := RR) (q := view RR.prog [77]) (H := hk) (ob := ob) (M := 6000) (loose := loose) (d := HandSHeadRun.topDef RR.prog 77) (kwd := []) ob_eq
    (by kernel_rfl) (fun st => by kernel_rfl) run (by kernel_rfl) (by kernel_rfl) (by kernel_rfl) (by rfl) (by first | assumption | decide +kernel) (by decide +kernel) ⟨rfl, rfl, rfl, rfl, rfl, by decide +kernel⟩ ?hw ?hc
  case hw => w_witness2
  case hc =>
    refine Att.attach_call (l := PySem.Challenge.rw_purseahead_k35_whole_one_paced_at_all_li) (n := 63) rfl (by kernel_rfl) fun w s₀ s₁ mg mb fa o pm cd doc a vs ns G Y ho hd hcd hmg hobj hints hlen hg => ?_
    obtain ⟨K, KX, c⟩ := Y
    have Fs := facts KX G.T.g c
    obtain ⟨f, fd, D, hm, hbind⟩ := Fs.d_law
    have hname : (HandSHeadRun.topDef RR.prog 77).name = ("law" : PySem.Str) := by kernel_rfl
    rw [hname] at hmg
    have same := hmg.symm.trans hm
    cases same
    have room : Room 10 callerA := ⟨rfl, by decide, by decide⟩
    exact law_here KX G.T.g G.T.b G.T.builtins G.T.nolimit hg hobj hints (Nat.le_trans hlen (by decide)) room D sc_law (fun u => hbind _ u) fun base cdv H hS => law_reads Fs fa cdv callerA s₁ H [.ref a] (fun v _ => v = V.bl true) (fun _ _ _ => False) (room.deeper _) rfl ⟨a, ns, rfl, hS, hlen, fun _ => rfl⟩
end PA
theorem PySem.Challenge.cw_purseahead_k35_whole_one_paced_at_all_li_holds : PySem.Challenge.rw_purseahead_k35_whole_one_paced_at_all_li.Holds :=
  PA.whole_law
