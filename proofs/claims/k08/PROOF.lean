import PyProof.Rows.All
import Wide.All
import OpenK.AllK
import Wide.FinOn
import HandS.ForExc
import HandS.Comp
import HandS.Codes
import HandS.Defaults
import HandS.MakeKwOnly
import HandS.IsInst
import HandS.Style
import HandS.HeadHook1
import HandS.Dict
import HandS.List
import KE.KStateDown
import HandS.Iter
import HandS.Text
import HandS.More
import HandS.Flow
import HandS.MakeKw
import HandS.SortInts
import HandS.Head0
import HandS.Head1
import HandS.Head2
import HandS.HeadEnd
import HandS.HeadHook2
import PySem.Challenge.RW_tickrings_k08_receive_queues

section
set_option Elab.async false
set_option linter.all false
set_option maxRecDepth 100000
/-! SL0: separate heaps: atoms over parts of the abstract heap; what stands for ever (tuples) may be shared. -/
namespace SL
open PySem L2

abbrev Atom := Hp → Prop
def Sub (h H : Hp) : Prop := ∀ a o, h a = some o → H a = some o
/-- objects that never change -/
def imm : HO → Bool
  | .tup _ => true
  | .frz _ _ => true
  | _ => false
def Apart (h k : Hp) : Prop := ∀ a o u, h a = some o → k a = some u → imm o = true
/-- these parts stand, apart from one another -/
inductive Own : Hp → List Atom → Prop where
  | nil {H : Hp} : Own H []
  | cons {H : Hp} {P : Atom} {Ps : List Atom} (h k : Hp) (p : P h) (f : Own k Ps) (s1 : Sub h H) (s2 : Sub k H) (d : Apart h k) : Own H (P :: Ps)
theorem Own.out {H : Hp} {P : Atom} {Ps : List Atom} (x : Own H (P :: Ps)) : ∃ h k, P h ∧ Own k Ps ∧ Sub h H ∧ Sub k H ∧ Apart h k := by
  cases x with
  | cons h k p f s1 s2 d => exact ⟨h, k, p, f, s1, s2, d⟩
theorem Own.mk {H : Hp} {P : Atom} {Ps : List Atom} (x : ∃ h k, P h ∧ Own k Ps ∧ Sub h H ∧ Sub k H ∧ Apart h k) : Own H (P :: Ps) := by
  obtain ⟨h, k, p, f, s1, s2, d⟩ := x
  exact .cons h k p f s1 s2 d

theorem Sub.refl (h : Hp) : Sub h h := fun _ _ e => e
theorem Sub.trans {h k H : Hp} (a : Sub h k) (b : Sub k H) : Sub h H := fun x o e => b x o (a x o e)
theorem Sub.upd {h H : Hp} {p : Addr} {o : HO} (s : Sub h H) (n : h p = none) : Sub h (upd H p o) := fun a u e => by
  have ne : a ≠ p := by
    intro q
    rw [q, n] at e
    cases e
  rw [upd_ne ne]
  exact s a u e
theorem Sub.none {h H : Hp} {p : Addr} (s : Sub h H) (n : H p = none) : h p = none := by
  cases e : h p with
  | none => rfl
  | some o =>
    rw [s p o e] at n
    cases n

theorem Own.up {cs : List Atom} {H H' : Hp} (x : Own H cs) (s : Sub H H') : Own H' cs := by
  cases x with
  | nil => exact .nil
  | cons h k p f s1 s2 d => exact .cons h k p f (s1.trans s) (s2.trans s) d

theorem sub_non {H : Hp} : Sub (fun _ => none) H := fun _ _ e => nomatch e
theorem apart_non {H : Hp} : Apart (fun _ => none) H := fun _ _ _ e _ => nomatch e
/-- both parts in one -/
def un (h k : Hp) : Hp := fun a => match h a with
  | some o => some o
  | none => k a
theorem un_l {h k : Hp} : Sub h (un h k) := fun a o e => by
  unfold un
  rw [e]
theorem un_r {h k H : Hp} (s1 : Sub h H) (s2 : Sub k H) : Sub k (un h k) := fun a o e => by
  unfold un
  cases q : h a with
  | none => exact e
  | some u =>
    have e1 := s1 a u q
    rw [s2 a o e] at e1
    exact e1.symm
theorem un_to {h k H : Hp} (s1 : Sub h H) (s2 : Sub k H) : Sub (un h k) H := fun a o e => by
  unfold un at e
  cases q : h a with
  | none =>
    rw [q] at e
    exact s2 a o e
  | some u =>
    rw [q] at e
    cases e
    exact s1 a _ q
theorem Apart.symm {h k H : Hp} (s1 : Sub h H) (s2 : Sub k H) (d : Apart h k) : Apart k h := fun a o u e1 e2 => by
  have q := d a u o e2 e1
  have e := s1 a u e2
  rw [s2 a o e1] at e
  cases e
  exact q
theorem Apart.un_l {h k x : Hp} (a : Apart h x) (b : Apart k x) : Apart (un h k) x := fun c o u e1 e2 => by
  unfold un at e1
  cases q : h c with
  | none =>
    rw [q] at e1
    exact b c o u e1 e2
  | some v =>
    rw [q] at e1
    cases e1
    exact a c _ u q e2
theorem Apart.sub {h h' k k' : Hp} (d : Apart h k) (a : Sub h' h) (b : Sub k' k) : Apart h' k' := fun c o u e1 e2 => d c o u (a c o e1) (b c u e2)

theorem Own.swap {P Q : Atom} {F : List Atom} {H : Hp} (x : Own H (P :: Q :: F)) : Own H (Q :: P :: F) := by
  obtain ⟨h, k, p, y, s1, s2, d⟩ := x.out
  obtain ⟨h2, k2, q, f, s3, s4, d2⟩ := y.out
  refine .cons h2 (un h k2) q (.cons h k2 p f un_l (un_r s1 (s4.trans s2)) (d.sub (Sub.refl _) s4)) (s3.trans s2) (un_to s1 (s4.trans s2)) ?_
  refine Apart.symm (H := H) (un_to s1 (s4.trans s2)) (s3.trans s2) (Apart.un_l (d.sub (Sub.refl _) s3) ?_)
  exact Apart.symm s3 s4 d2
theorem Own.cons_mono {P : Atom} {F G : List Atom} {H : Hp} (x : Own H (P :: F)) (m : ∀ K, Own K F → Own K G) : Own H (P :: G) := by
  obtain ⟨h, k, p, f, s1, s2, d⟩ := x.out
  exact .cons h k p (m k f) s1 s2 d
theorem Own.perm {F G : List Atom} (pm : F.Perm G) : ∀ {H : Hp}, Own H F → Own H G := by
  induction pm with
  | nil => exact fun x => x
  | cons a _ ih => exact fun x => x.cons_mono fun _ => ih
  | swap a b l => exact fun x => x.swap
  | trans _ _ i1 i2 => exact fun x => i2 (i1 x)
theorem Own.tail {P : Atom} {F : List Atom} {H : Hp} (x : Own H (P :: F)) : Own H F := by
  obtain ⟨h, k, p, f, s1, s2, d⟩ := x.out
  exact f.up s2
theorem Own.mono1 {P Q : Atom} {F : List Atom} {H : Hp} (x : Own H (P :: F)) (m : ∀ h, P h → Q h) : Own H (Q :: F) := by
  obtain ⟨h, k, p, f, s1, s2, d⟩ := x.out
  exact .cons h k (m h p) f s1 s2 d
/-- what is true of a part, told of the whole -/
theorem Own.at1 {P : Atom} {F : List Atom} {H : Hp} (x : Own H (P :: F)) : ∃ h, P h ∧ Sub h H := by
  obtain ⟨h, k, p, f, s1, s2, d⟩ := x.out
  exact ⟨h, p, s1⟩

/-! ### an object at its place -/
structure pt (a : Addr) (o : HO) (h : Hp) : Prop where
  e : h a = some o
theorem own_pt {a : Addr} {o : HO} {F : List Atom} {H : Hp} (x : Own H (pt a o :: F)) : H a = some o := by
  obtain ⟨h, p, s⟩ := x.at1
  exact s a o p.e
def one (a : Addr) (o : HO) : Hp := fun b => if b = a then some o else none
theorem one_at {a : Addr} {o : HO} : one a o a = some o := if_pos rfl
theorem one_is {a b : Addr} {o u : HO} (e : one a o b = some u) : b = a ∧ u = o := by
  unfold one at e
  by_cases q : b = a
  · rw [if_pos q] at e
    exact ⟨q, (Option.some.inj e).symm⟩
  · rw [if_neg q] at e
    cases e
theorem own_set {a : Addr} {o u : HO} {F : List Atom} {H : Hp} (x : Own H (pt a o :: F)) (m : imm o = false) : Own (upd H a u) (pt a u :: F) := by
  obtain ⟨h, k, p, f, s1, s2, d⟩ := x.out
  have p' : h a = some o := p.e
  have kn : k a = none := by
    cases e : k a with
    | none => rfl
    | some v =>
      have q := d a o v p' e
      rw [m] at q
      cases q
  refine .cons (one a u) k ⟨one_at⟩ f (fun b v e => ?_) (s2.upd kn) (fun b v w e1 e2 => ?_)
  · obtain ⟨rfl, rfl⟩ := one_is e
    exact upd_same
  · obtain ⟨rfl, rfl⟩ := one_is e1
    rw [kn] at e2
    cases e2
theorem own_new {a : Addr} {u : HO} {F : List Atom} {H : Hp} (x : Own H F) (n : H a = none) : Own (upd H a u) (pt a u :: F) := by
  refine .cons (one a u) H ⟨one_at⟩ x (fun b v e => ?_) ((Sub.refl H).upd n) (fun b v w e1 e2 => ?_)
  · obtain ⟨rfl, rfl⟩ := one_is e
    exact upd_same
  · obtain ⟨rfl, rfl⟩ := one_is e1
    rw [n] at e2
    cases e2
theorem own_fresh {a : Addr} {u : HO} {F : List Atom} {H : Hp} (x : Own H F) (n : H a = none) : Own (upd H a u) F := x.up ((Sub.refl H).upd n)
theorem own_ne {a b : Addr} {o u : HO} {F : List Atom} {H : Hp} (x : Own H (pt a o :: pt b u :: F)) (m : imm o = false) : a ≠ b := by
  obtain ⟨h, k, p, y, s1, s2, d⟩ := x.out
  obtain ⟨h2, k2, q, f, s3, s4, d2⟩ := y.out
  intro e
  subst e
  have z := d a o u p.e (s3 a u q.e)
  rw [m] at z
  cases z
/-- an instance: its class, its attributes -/
structure ob (p C : Addr) (fs : List (Str × V)) (h : Hp) : Prop where
  e : ∃ dx, h p = some (.ins C dx fs)
theorem own_ob {p C : Addr} {fs : List (Str × V)} {F : List Atom} {H : Hp} (x : Own H (ob p C fs :: F)) : ∃ dx, H p = some (.ins C dx fs) := by
  obtain ⟨h, ⟨⟨dx, q⟩⟩, s⟩ := x.at1
  exact ⟨dx, s p _ q⟩
theorem own_ob_set {p C dx : Addr} {fs gs : List (Str × V)} {F : List Atom} {H : Hp} (x : Own H (ob p C fs :: F)) : Own (upd H p (.ins C dx gs)) (ob p C gs :: F) := by
  obtain ⟨h, k, ⟨⟨dy, p1⟩⟩, f, s1, s2, d⟩ := x.out
  have y : Own H (pt p (.ins C dy fs) :: F) := .cons h k ⟨p1⟩ f s1 s2 d
  exact (own_set (u := .ins C dx gs) y rfl).mono1 fun _ q => ⟨⟨dx, q.e⟩⟩
theorem own_made {x dx C : Addr} {F : List Atom} {H : Hp} (y : Own H F) (nx : H x = none) (nd : H dx = none) (ne : dx ≠ x) : Own (upd (upd H dx (.own x)) x (.ins C dx [])) (ob x C [] :: F) :=
  (own_new (u := .ins C dx []) (own_fresh (u := .own x) y nd) (by rw [upd_ne ne.symm]; exact nx)).mono1 fun _ q => ⟨⟨dx, q.e⟩⟩

/-! ### pure facts, choices, nested parts -/
structure pu (p : Prop) (h : Hp) : Prop where
  e : p
theorem own_pu {p : Prop} {F : List Atom} {H : Hp} (x : Own H (pu p :: F)) : p ∧ Own H F := by
  obtain ⟨h, q, s⟩ := x.at1
  exact ⟨q.e, x.tail⟩
theorem own_put {p : Prop} {F : List Atom} {H : Hp} (q : p) (x : Own H F) : Own H (pu p :: F) := .cons (fun _ => none) H ⟨q⟩ x sub_non (Sub.refl H) apart_non
theorem own_ex {α : Type} {P : α → Atom} {F : List Atom} {H : Hp} (x : Own H ((fun h => ∃ y, P y h) :: F)) : ∃ y, Own H (P y :: F) := by
  obtain ⟨h, k, ⟨y, p⟩, f, s1, s2, d⟩ := x.out
  exact ⟨y, .cons h k p f s1 s2 d⟩
theorem own_ext {α : Type} {P : α → Atom} {F : List Atom} {H : Hp} (y : α) (x : Own H (P y :: F)) : Own H ((fun h => ∃ y, P y h) :: F) := x.mono1 fun _ p => ⟨y, p⟩
theorem Own.app : ∀ {cs : List Atom} {F : List Atom} {h k H : Hp}, Own h cs → Own k F → Sub h H → Sub k H → Apart h k → Own H (cs ++ F)
  | [], F, h, k, H, _, f, _, s2, _ => f.up s2
  | P :: cs, F, h, k, H, y, f, s1, s2, d => by
    obtain ⟨h1, k1, p, c, s3, s4, d1⟩ := y.out
    refine .cons h1 (un k1 k) p ?_ (s3.trans s1) (un_to (s4.trans s1) s2) ?_
    · exact Own.app c f un_l (un_r (s4.trans s1) s2) (d.sub s4 (Sub.refl _))
    · refine Apart.symm (H := H) (un_to (s4.trans s1) s2) (s3.trans s1) (Apart.un_l ?_ ?_)
      · exact Apart.symm s3 s4 d1
      · exact Apart.symm s1 s2 d |>.sub (Sub.refl _) s3
/-- several parts as one -/
structure al (cs : List Atom) (h : Hp) : Prop where
  e : Own h cs
theorem own_in {cs F : List Atom} {H : Hp} (x : Own H (al cs :: F)) : Own H (cs ++ F) := by
  obtain ⟨h, k, p, f, s1, s2, d⟩ := x.out
  exact Own.app p.e f s1 s2 d
theorem own_out : ∀ {cs F : List Atom} {H : Hp}, Own H (cs ++ F) → Own H (al cs :: F)
  | [], F, H, x => .cons (fun _ => none) H ⟨.nil⟩ x sub_non (Sub.refl H) apart_non
  | P :: cs, F, H, y => by
    obtain ⟨h, k, p, f, s1, s2, d⟩ := Own.out (P := P) (Ps := cs ++ F) y
    obtain ⟨h2, k2, c, g, s3, s4, d2⟩ := (own_out (cs := cs) f).out
    refine .cons (un h h2) k2 ⟨.cons h h2 p c.e un_l (un_r s1 (s3.trans s2)) (d.sub (Sub.refl _) s3)⟩ g (un_to s1 (s3.trans s2)) (s4.trans s2) ?_
    exact Apart.un_l (d.sub (Sub.refl _) s4) d2

/-! ### what stands for ever -/
def Pst (φ : Atom) : Prop := ∀ h H : Hp, (∀ a o, imm o = true → h a = some o → H a = some o) → φ h → φ H
def immOf (H : Hp) : Hp := fun a => match H a with
  | some o => if imm o = true then some o else none
  | none => none
theorem immOf_is {H : Hp} {a : Addr} {o : HO} (e : immOf H a = some o) : H a = some o ∧ imm o = true := by
  unfold immOf at e
  cases q : H a with
  | none =>
    rw [q] at e
    cases e
  | some u =>
    rw [q] at e
    by_cases i : imm u = true
    · have e2 : (if imm u = true then some u else none) = some o := e
      rw [if_pos i] at e2
      cases e2
      exact ⟨rfl, i⟩
    · have e2 : (if imm u = true then some u else none) = some o := e
      rw [if_neg i] at e2
      cases e2
theorem immOf_at {H : Hp} {a : Addr} {o : HO} (i : imm o = true) (e : H a = some o) : immOf H a = some o := by
  unfold immOf
  rw [e]
  exact if_pos i
theorem own_per {φ : Atom} {F : List Atom} {H : Hp} (x : Own H (φ :: F)) (p : Pst φ) : φ H := by
  obtain ⟨h, q, s⟩ := x.at1
  exact p h H (fun a o _ e => s a o e) q
theorem per_own {φ : Atom} {F : List Atom} {H : Hp} (q : φ H) (p : Pst φ) (x : Own H F) : Own H (φ :: F) :=
  .cons (immOf H) H (p H _ (fun a o i e => immOf_at i e) q) x (fun a o e => (immOf_is e).1) (Sub.refl H) (fun a o u e _ => (immOf_is e).2)
theorem pst_tup {a : Addr} {xs : List V} : Pst (pt a (.tup xs)) := fun h H m e => ⟨m a _ rfl e.e⟩
theorem pst_and {φ ψ : Atom} (a : Pst φ) (b : Pst ψ) : Pst (fun h => φ h ∧ ψ h) := fun h H m e => ⟨a h H m e.1, b h H m e.2⟩
theorem pst_or {φ ψ : Atom} (a : Pst φ) (b : Pst ψ) : Pst (fun h => φ h ∨ ψ h) := fun h H m e => e.elim (fun e => .inl (a h H m e)) fun e => .inr (b h H m e)
theorem pst_ex {α : Type} {φ : α → Atom} (a : ∀ x, Pst (φ x)) : Pst (fun h => ∃ x, φ x h) := fun h H m ⟨x, e⟩ => ⟨x, a x h H m e⟩
theorem pst_all {α : Type} {φ : α → Atom} (a : ∀ x, Pst (φ x)) : Pst (fun h => ∀ x, φ x h) := fun h H m e x => a x h H m (e x)
theorem pst_imp {p : Prop} {φ : Atom} (a : Pst φ) : Pst (fun h => p → φ h) := fun h H m e q => a h H m (e q)
theorem pst_pu {p : Prop} : Pst (fun _ => p) := fun _ _ _ e => e
theorem own_tup {a : Addr} {xs : List V} {F : List Atom} {H : Hp} (x : Own H F) (n : H a = none) : Own (upd H a (.tup xs)) (pt a (.tup xs) :: F) := own_new x n

/-! ### bringing a part to the front -/
section
variable {a b c d e f g i j k l m n o p q r s t u v w x y z : Atom} {F : List Atom} {H : Hp}
theorem own_p1 (X : Own H (a :: b :: F)) : Own H (b :: a :: F) := X.swap
theorem own_p2 (X : Own H (a :: b :: c :: F)) : Own H (c :: a :: b :: F) := X.perm (List.perm_middle (l₁ := [a, b]))
theorem own_p3 (X : Own H (a :: b :: c :: d :: F)) : Own H (d :: a :: b :: c :: F) := X.perm (List.perm_middle (l₁ := [a, b, c]))
theorem own_p4 (X : Own H (a :: b :: c :: d :: e :: F)) : Own H (e :: a :: b :: c :: d :: F) := X.perm (List.perm_middle (l₁ := [a, b, c, d]))
theorem own_p5 (X : Own H (a :: b :: c :: d :: e :: f :: F)) : Own H (f :: a :: b :: c :: d :: e :: F) := X.perm (List.perm_middle (l₁ := [a, b, c, d, e]))
theorem own_p6 (X : Own H (a :: b :: c :: d :: e :: f :: g :: F)) : Own H (g :: a :: b :: c :: d :: e :: f :: F) := X.perm (List.perm_middle (l₁ := [a, b, c, d, e, f]))
theorem own_p7 (X : Own H (a :: b :: c :: d :: e :: f :: g :: i :: F)) : Own H (i :: a :: b :: c :: d :: e :: f :: g :: F) := X.perm (List.perm_middle (l₁ := [a, b, c, d, e, f, g]))
theorem own_p8 (X : Own H (a :: b :: c :: d :: e :: f :: g :: i :: j :: F)) : Own H (j :: a :: b :: c :: d :: e :: f :: g :: i :: F) := X.perm (List.perm_middle (l₁ := [a, b, c, d, e, f, g, i]))
theorem own_p9 (X : Own H (a :: b :: c :: d :: e :: f :: g :: i :: j :: k :: F)) : Own H (k :: a :: b :: c :: d :: e :: f :: g :: i :: j :: F) := X.perm (List.perm_middle (l₁ := [a, b, c, d, e, f, g, i, j]))
theorem own_p10 (X : Own H (a :: b :: c :: d :: e :: f :: g :: i :: j :: k :: l :: F)) : Own H (l :: a :: b :: c :: d :: e :: f :: g :: i :: j :: k :: F) := X.perm (List.perm_middle (l₁ := [a, b, c, d, e, f, g, i, j, k]))
theorem own_p11 (X : Own H (a :: b :: c :: d :: e :: f :: g :: i :: j :: k :: l :: m :: F)) : Own H (m :: a :: b :: c :: d :: e :: f :: g :: i :: j :: k :: l :: F) := X.perm (List.perm_middle (l₁ := [a, b, c, d, e, f, g, i, j, k, l]))
theorem own_p12 (X : Own H (a :: b :: c :: d :: e :: f :: g :: i :: j :: k :: l :: m :: n :: F)) : Own H (n :: a :: b :: c :: d :: e :: f :: g :: i :: j :: k :: l :: m :: F) := X.perm (List.perm_middle (l₁ := [a, b, c, d, e, f, g, i, j, k, l, m]))
end
end SL
end

section
set_option Elab.async false
set_option linter.all false
set_option maxRecDepth 100000
/-! SL1: readings with named rests; a step for each; loops by atoms. -/
namespace SL
open PySem L2

/-! ### the rules' values by names -/
def rAddI : R2 := rI0 fun i j => .int (i + j)
def rSubI : R2 := rI0 fun i j => .int (i - j)
def rMulI : R2 := rI CMul fun i j => .int (i * j)
def rDivI : R2 := rI CDiv fun i j => .int (i / j)
def rModI : R2 := rI (fun _ j => 0 < j) fun i j => .int (i % j)
def rLtI : R2 := rI0 fun i j => .bl (decide (i < j))
def rLeI : R2 := rI0 fun i j => .bl (decide (i ≤ j))
def rGtI : R2 := rI0 fun i j => .bl (decide (j < i))
def rGeI : R2 := rI0 fun i j => .bl (decide (j ≤ i))
def rIsN : R2 := fun x y H Q => y = .non ∧ Q (.bl (decide (x = .non))) H
def rNotN : R2 := fun x y H Q => y = .non ∧ Q (.bl (!decide (x = .non))) H
def rIsBl : R2 := fun x y H Q => ∃ a b : Bool, x = .bl a ∧ y = .bl b ∧ Q (.bl (decide (a = b))) H
def rAddT : R2 := fun x y H Q => ∃ i j, x = .str i ∧ y = .str j ∧ i.length + j.length ≤ sizeLine ∧ Q (.str (i ++ j)) H
def rLen (K : PySem.W.Frag) : List V → Hp → VK → Prop := fun xs H Q => ∃ p ys, xs = [.ref p] ∧ (SqL K H p ys ∨ SqT K H p ys) ∧ Q (.int ys.length) H
def rAbs : List V → Hp → VK → Prop := fun xs H Q => ∃ i, xs = [.int i] ∧ Q (.int (if i < 0 then -i else i)) H
def rInt : List V → Hp → VK → Prop := fun xs H Q => (∃ i, xs = [.int i] ∧ Q (.int i) H) ∨ ∃ k, xs = [.bl k] ∧ Q (.int (if k then 1 else 0)) H
def rMin2 : List V → Hp → VK → Prop := fun xs H Q => ∃ i j, xs = [.int i, .int j] ∧ Q (.int (if j < i then j else i)) H
def rMax2 : List V → Hp → VK → Prop := fun xs H Q => ∃ i j, xs = [.int i, .int j] ∧ Q (.int (if j > i then j else i)) H
def rList (K : PySem.W.Frag) : List V → Hp → VK → Prop := fun xs H Q => ∃ p ys, xs = [.ref p] ∧ (SqL K H p ys ∨ SqT K H p ys) ∧ ∀ l, H l = none → Q (.ref l) (upd H l (.lst ys))
section
variable {X : Cx}
theorem op_addI : OpR X (binaryOp .Add) rAddI := op_add
theorem op_subI : OpR X (binaryOp .Sub) rSubI := op_sub
theorem op_mulI : OpR X (binaryOp .Mult) rMulI := op_mul
theorem op_divI : OpR X (binaryOp .FloorDiv) rDivI := op_fdiv
theorem op_modI : OpR X (binaryOp .Mod) rModI := op_mod
theorem op_ltI : OpR X (compareOp .Lt) rLtI := op_lt
theorem op_leI : OpR X (compareOp .LtE) rLeI := op_le
theorem op_gtI : OpR X (compareOp .Gt) rGtI := op_gt
theorem op_geI : OpR X (compareOp .GtE) rGeI := op_ge
theorem op_isNI : OpR X (compareOp .Is) rIsN := op_isN
theorem op_notNI : OpR X (compareOp .IsNot) rNotN := op_notN
theorem op_isBlI : OpR X (compareOp .Is) rIsBl := op_isBl
theorem op_addT : OpR X (binaryOp .Add) rAddT := op_add_str
theorem call_lenI : CallR X (.builtin "len") (rLen X.K) := call_len_seq
theorem call_absI : CallR X (.builtin "abs") rAbs := call_abs
theorem call_intI : CallR X (.type "int") rInt := call_int1
theorem call_listI : CallR X (.type "list") (rList X.K) := call_list_of
end

/-! ### rests by names -/
def kFld (K : PySem.W.Frag) (f : Str) (Q : VK) : VK := fun x H1 => ∃ a C dx fs v, x = .ref a ∧ H1 a = some (.ins C dx fs) ∧ Cls K C ∧ NoAttr K C f ∧ fs.lookup f = some v ∧ Q v H1
def kOp2 (r : R2) (x : V) (Q : VK) : VK := fun y H2 => r x y H2 Q
def kOp1 (r : R2) (tb : TE) (σ : St) (Q : VK) : VK := fun x H1 => tb σ H1 (kOp2 r x Q)
def kCons2 (x : V) (Q : List V → Hp → Prop) : List V → Hp → Prop := fun xs H2 => Q (x :: xs) H2
def kCons1 (tr : TA) (σ : St) (Q : List V → Hp → Prop) : VK := fun x H1 => tr σ H1 (kCons2 x Q)
def kCall (sp : Sp) (dvs : List V) (E : XK) (Q : VK) : List V → Hp → Prop := fun vs H1 => sp (vs ++ dvs) H1 Q E
def kMethA (sp : Sp) (x : V) (dvs : List V) (E : XK) (Q : VK) : List V → Hp → Prop := fun vs H2 => sp (x :: (vs ++ dvs)) H2 Q E
def kMeth (C : Addr) (m : Str) (sp : Sp) (dvs : List V) (E : XK) (t : TA) (σ : St) (Q : VK) : VK := fun x H1 => ∃ a dx fs, x = .ref a ∧ H1 a = some (.ins C dx fs) ∧ fs.lookup m = none ∧ t σ H1 (kMethA sp x dvs E Q)
def kMake (C : Addr) (sp : Sp) (dvs : List V) (E : XK) (Q : VK) : List V → Hp → Prop := fun vs H1 => ∀ x dx, H1 x = none → H1 dx = none → dx ≠ x → sp (.ref x :: (vs ++ dvs)) (upd (upd H1 dx (.own x)) x (.ins C dx [])) (fun v H2 => v = .non ∧ Q (.ref x) H2) E
def kMade (x : Addr) (Q : VK) : VK := fun v H2 => v = .non ∧ Q (.ref x) H2
def kCB (r : List V → Hp → VK → Prop) (Q : VK) : List V → Hp → Prop := fun vs H1 => r vs H1 Q
def kBM2 (r : V → List V → Hp → VK → Prop) (x : V) (Q : VK) : List V → Hp → Prop := fun xs H2 => r x xs H2 Q
def kBM (K : PySem.W.Frag) (T : String) (r : V → List V → Hp → VK → Prop) (t : TA) (σ : St) (Q : VK) : VK := fun x H1 => tyV K T x H1 ∧ t σ H1 (kBM2 r x Q)
def kBM0 (K : PySem.W.Frag) (T : String) (r : V → List V → Hp → VK → Prop) (Q : VK) : VK := fun x H1 => tyV K T x H1 ∧ r x [] H1 Q
def kTup (Q : VK) : List V → Hp → Prop := fun xs H1 => xs.length ≤ sizeLine ∧ ∀ p, H1 p = none → Q (.ref p) (upd H1 p (.tup xs))
def kLst (Q : VK) : List V → Hp → Prop := fun xs H1 => xs.length ≤ sizeLine ∧ ∀ p, H1 p = none → Q (.ref p) (upd H1 p (.lst xs))
def kAndV (tb : TE) (σ : St) (Q : VK) : VK := fun x H1 => ∃ c, x = .bl c ∧ if c = true then tb σ H1 Q else Q (.bl false) H1
def kOrV (tb : TE) (σ : St) (Q : VK) : VK := fun x H1 => ∃ c, x = .bl c ∧ if c = true then Q (.bl true) H1 else tb σ H1 Q
def kNotV (Q : VK) : VK := fun x H1 => ∃ c, x = .bl c ∧ Q (.bl (!c)) H1
def kTest (Q : Bool → Hp → Prop) : VK := fun x H' => ∃ k, x = .bl k ∧ Q k H'
def kAnd (u : TT) (σ : St) (Q : Bool → Hp → Prop) : Bool → Hp → Prop := fun c H1 => if c = true then u σ H1 Q else Q false H1
def kOr (u : TT) (σ : St) (Q : Bool → Hp → Prop) : Bool → Hp → Prop := fun c H1 => if c = true then Q true H1 else u σ H1 Q
def kNot (Q : Bool → Hp → Prop) : Bool → Hp → Prop := fun c H1 => Q (!c) H1
def kIf (ta tb : TE) (σ : St) (Q : VK) : Bool → Hp → Prop := fun c H1 => if c = true then ta σ H1 Q else tb σ H1 Q
def kIfS (t u : TS) (D : Ends) (σ : St) : Bool → Hp → Prop := fun b H1 => if b = true then t D σ H1 else u D σ H1
def kSet (i : Nat) (σ : St) (P : St → Hp → Prop) : VK := fun x H1 => P (σ.set i (some x)) H1
def kDrop (σ : St) (P : St → Hp → Prop) : VK := fun _ H1 => P σ H1
def kSt2 (K : PySem.W.Frag) (f : Str) (y : V) (σ : St) (P : St → Hp → Prop) : VK := fun x H2 => ∃ a C dx fs, x = .ref a ∧ H2 a = some (.ins C dx fs) ∧ Cls K C ∧ NoAttr K C f ∧ fs.length < 1000 ∧ P σ (upd H2 a (.ins C dx (putF f y fs)))
def kSt1 (K : PySem.W.Frag) (ta : TE) (f : Str) (σ : St) (P : St → Hp → Prop) : VK := fun y H1 => ta σ H1 (kSt2 K f y σ P)
def kAu3 (K : PySem.W.Frag) (a C : Addr) (f : Str) (σ : St) (P : St → Hp → Prop) : VK := fun z H3 => ∃ dx' fs', H3 a = some (.ins C dx' fs') ∧ fs'.length < 1000 ∧ P σ (upd H3 a (.ins C dx' (putF f z fs')))
def kAu2 (K : PySem.W.Frag) (a C : Addr) (rd : V → V → Hp → VK → Prop) (v : V) (f : Str) (σ : St) (P : St → Hp → Prop) : VK := fun y H2 => rd v y H2 (kAu3 K a C f σ P)
def kAu1 (K : PySem.W.Frag) (tv : TE) (rd : V → V → Hp → VK → Prop) (f : Str) (σ : St) (P : St → Hp → Prop) : VK := fun x H1 => ∃ a C dx fs v, x = .ref a ∧ H1 a = some (.ins C dx fs) ∧ Cls K C ∧ NoAttr K C f ∧ fs.lookup f = some v ∧ tv σ H1 (kAu2 K a C rd v f σ P)
def kLu2 (i : Nat) (x : V) (ti : V → V → Hp → VK → Prop) (σ : St) (P : St → Hp → Prop) : VK := fun y H1 => ti x y H1 (kSet i σ P)
def kSu3 (i v : V) (t : TSet) (o : V) (σ : St) (P : St → Hp → Prop) : Hp → Prop := fun H2 => t o i v H2 fun H3 => P σ H3
def kSu2 (v : V) (t : TSet) (o : V) (σ : St) (P : St → Hp → Prop) : VK := fun i H2 => t o i v H2 fun H3 => P σ H3
def kSu1 (v : V) (ti : TE) (t : TSet) (σ : St) (P : St → Hp → Prop) : VK := fun o H1 => ti σ H1 (kSu2 v t o σ P)
def kSu0 (to ti : TE) (t : TSet) (σ : St) (P : St → Hp → Prop) : VK := fun v H1 => to σ H1 (kSu1 v ti t σ P)
def kFor (g : TG) (tb : TS) (D : Ends) (σ : St) : It → Hp → Prop := fun J H1 => ∃ W : Nat → Nat → St → Hp → Prop, (∃ m, W 0 m σ H1) ∧ ∀ i m σ H, W i m σ H →
  (J.stop i H ∧ D.nx σ H) ∨ (J.go i H ∧ ∃ N : St → Hp → Prop, (∀ σ' H', N σ' H' → ∃ m', m' < m ∧ W (i + 1) m' σ' H') ∧ ∀ x H', J.yld i H x H' → g x σ H' fun σ2 H2 => tb { D with nx := N, ct := N, bk := D.nx } σ2 H2)
def kLc (g : TG) (tt : TT) (te : TE) (vs : List Nat) (σ : St) (Q : VK) : It → Hp → Prop := fun J H1 => ∀ D, H1 D = none → ∃ W : Nat → Nat → Hp → Prop, (∃ m, W 0 m (upd H1 D (.lst []))) ∧ ∀ i m H, W i m H →
  (J.stop i H ∧ Q (.ref D) H) ∨ (J.go i H ∧ ∃ Nx : Hp → Prop, (∀ H', Nx H' → ∃ m', m' < m ∧ W (i + 1) m' H') ∧ ∀ x H', J.yld i H x H' → g x (wipe σ vs) H' fun σ2 H2 => wipe σ2 vs = wipe σ vs ∧ tt σ2 H2 fun b H3 =>
    if b = true then te σ2 H3 fun y H4 => ∃ acc, H4 D = some (.lst acc) ∧ acc.length < sizeLine ∧ Nx (upd H4 D (.lst (acc ++ [y]))) else Nx H3)
def kListI (K : PySem.W.Frag) (R : It → Hp → Prop) : VK := fun x H1 => ∃ a, x = .ref a ∧ (∃ xs, SqL K H1 a xs) ∧ R (Itl K a) H1
def kTupI (K : PySem.W.Frag) (R : It → Hp → Prop) : VK := fun x H1 => ∃ a, x = .ref a ∧ (∃ xs, SqT K H1 a xs) ∧ R (Itt K a) H1
def kRng1 (R : It → Hp → Prop) : List V → Hp → Prop := fun vs H1 => ∃ j : Int, vs = [.int j] ∧ -(2 ^ 62) ≤ j ∧ j < 2 ^ 62 ∧ R (Itr 0 j.toNat) H1
def kRng2 (R : It → Hp → Prop) : List V → Hp → Prop := fun vs H1 => ∃ i j : Int, vs = [.int i, .int j] ∧ (-(2 ^ 62) ≤ i ∧ i < 2 ^ 62 ∧ -(2 ^ 62) ≤ j ∧ j < 2 ^ 62) ∧ R (Itr i (j - i).toNat) H1

/-! ### one step each -/
section
variable {K : PySem.W.Frag} {σ : St} {H : Hp} {Q : VK} {ta tb te tv to ti : TE} {t u : TT} {tt uu ts : TS} {tr tk : TA} {P : St → Hp → Prop} {D : Ends} {v x y : V} {f m : Str} {p C a l : Addr} {F : List Atom} {r : R2} {i j n : Int} {vs xs ys : List V}
theorem g_var {i : Nat} (h : σ[i]? = some (some v)) (k : Q v H) : tVar i σ H Q := ⟨v, h, k⟩
theorem g_c (k : Q v H) : tC v σ H Q := k
theorem g_fld (k : ta σ H (kFld K f Q)) : tFld K ta f σ H Q := k
theorem g_op (k : ta σ H (kOp1 r tb σ Q)) : tOp r ta tb σ H Q := k
theorem g_op1 (k : tb σ H (kOp2 r x Q)) : kOp1 r tb σ Q x H := k
theorem g_op2 (k : r x y H Q) : kOp2 r x Q y H := k
theorem g_nil {R : List V → Hp → Prop} (k : R [] H) : tNil σ H R := k
theorem g_cons {R : List V → Hp → Prop} (k : ta σ H (kCons1 tr σ R)) : tCons ta tr σ H R := k
theorem g_cons1 {R : List V → Hp → Prop} (k : tr σ H (kCons2 x R)) : kCons1 tr σ R x H := k
theorem g_cons2 {R : List V → Hp → Prop} (k : R (x :: xs) H) : kCons2 x R xs H := k
theorem g_call {sp : Sp} {dvs : List V} {E : XK} (k : tr σ H (kCall sp dvs E Q)) : tCall sp dvs E tr σ H Q := k
theorem g_callA {sp : Sp} {E : XK} (k : sp vs H Q E) : kCall sp [] E Q vs H := by
  show sp (vs ++ []) H Q E
  rw [List.append_nil]
  exact k
theorem g_meth {sp : Sp} {dvs : List V} {E : XK} (k : ta σ H (kMeth C m sp dvs E tr σ Q)) : tMeth C m sp dvs E ta tr σ H Q := k
theorem g_meth1 {sp : Sp} {dvs : List V} {E : XK} (h : ∃ dx fs, H p = some (.ins C dx fs) ∧ fs.lookup m = none) (k : tr σ H (kMethA sp (.ref p) dvs E Q)) : kMeth C m sp dvs E tr σ Q (.ref p) H := by
  obtain ⟨dx, fs, h1, h2⟩ := h
  exact ⟨p, dx, fs, rfl, h1, h2, k⟩
theorem g_methA {sp : Sp} {E : XK} (k : sp (x :: vs) H Q E) : kMethA sp x [] E Q vs H := by
  show sp (x :: (vs ++ [])) H Q E
  rw [List.append_nil]
  exact k
theorem g_make {sp : Sp} {dvs : List V} {E : XK} (k : tr σ H (kMake C sp dvs E Q)) : tMake C sp dvs E tr σ H Q := k
theorem g_makeA {sp : Sp} {E : XK} (x : Own H F) (k : ∀ p H1, Own H1 (ob p C [] :: F) → sp (.ref p :: vs) H1 (kMade p Q) E) : kMake C sp [] E Q vs H := by
  intro p dx np nd ne
  have q := k p _ (own_made (C := C) x np nd ne)
  show sp (.ref p :: (vs ++ [])) _ _ E
  rw [List.append_nil]
  exact q
theorem g_made (k : Q (.ref p) H) : kMade p Q .non H := ⟨rfl, k⟩
theorem g_cb {rr : List V → Hp → VK → Prop} (k : tr σ H (kCB rr Q)) : tCB rr tr σ H Q := k
theorem g_cbA {rr : List V → Hp → VK → Prop} (k : rr vs H Q) : kCB rr Q vs H := k
theorem g_bm {T : String} {rr : V → List V → Hp → VK → Prop} (k : to σ H (kBM K T rr tr σ Q)) : tBM K T rr to tr σ H Q := k
theorem g_bm0 {T : String} {rr : V → List V → Hp → VK → Prop} (k : to σ H (kBM0 K T rr Q)) : tBM0 K T rr to σ H Q := k
theorem g_bmL {rr : V → List V → Hp → VK → Prop} (h : H a = some (.lst xs)) (k : tr σ H (kBM2 rr (.ref a) Q)) : kBM K "list" rr tr σ Q (.ref a) H := ⟨.inl ⟨rfl, _, SqL.of h⟩, k⟩
theorem g_bm0L {rr : V → List V → Hp → VK → Prop} (h : H a = some (.lst xs)) (k : rr (.ref a) [] H Q) : kBM0 K "list" rr Q (.ref a) H := ⟨.inl ⟨rfl, _, SqL.of h⟩, k⟩
theorem g_bm2 {rr : V → List V → Hp → VK → Prop} (k : rr x vs H Q) : kBM2 rr x Q vs H := k
theorem g_tup (k : tr σ H (kTup Q)) : tTup tr σ H Q := k
theorem g_tupA (z : Own H F) (h : vs.length ≤ 1000) (k : ∀ p H1, Own H1 (pt p (.tup vs) :: F) → Q (.ref p) H1) : kTup Q vs H := ⟨Nat.le_trans h (by decide), fun p np => k p _ (own_new z np)⟩
theorem g_lst (k : tr σ H (kLst Q)) : tLst tr σ H Q := k
theorem g_lstA (z : Own H F) (h : vs.length ≤ 1000) (k : ∀ p H1, Own H1 (pt p (.lst vs) :: F) → Q (.ref p) H1) : kLst Q vs H := ⟨Nat.le_trans h (by decide), fun p np => k p _ (own_new z np)⟩
/-! operators -/
theorem g_addI (k : Q (.int (i + j)) H) : rAddI (.int i) (.int j) H Q := ⟨i, j, rfl, rfl, k⟩
theorem g_subI (k : Q (.int (i - j)) H) : rSubI (.int i) (.int j) H Q := ⟨i, j, rfl, rfl, k⟩
theorem g_mulI (h : (-(2 ^ 62) < i ∧ i < 2 ^ 62) ∨ (-(2 ^ 62) < j ∧ j < 2 ^ 62)) (k : Q (.int (i * j)) H) : rMulI (.int i) (.int j) H Q := ⟨i, j, rfl, rfl, by unfold CMul; omega, k⟩
theorem g_divI (h : 0 < j ∧ j < 1073741824) (k : Q (.int (i / j)) H) : rDivI (.int i) (.int j) H Q := ⟨i, j, rfl, rfl, h, k⟩
theorem g_modI (h : 0 < j) (k : Q (.int (i % j)) H) : rModI (.int i) (.int j) H Q := ⟨i, j, rfl, rfl, h, k⟩
theorem g_ltI (k : Q (.bl (decide (i < j))) H) : rLtI (.int i) (.int j) H Q := ⟨i, j, rfl, rfl, k⟩
theorem g_leI (k : Q (.bl (decide (i ≤ j))) H) : rLeI (.int i) (.int j) H Q := ⟨i, j, rfl, rfl, k⟩
theorem g_gtI (k : Q (.bl (decide (j < i))) H) : rGtI (.int i) (.int j) H Q := ⟨i, j, rfl, rfl, k⟩
theorem g_geI (k : Q (.bl (decide (j ≤ i))) H) : rGeI (.int i) (.int j) H Q := ⟨i, j, rfl, rfl, k⟩
theorem g_eqI (k : Q (.bl (decide (i = j))) H) : rEq (.int i) (.int j) H Q := by
  refine ⟨rfl, ?_⟩
  have e : decide (V.int i = V.int j) = decide (i = j) := by
    by_cases q : i = j
    · rw [decide_eq_true q, decide_eq_true (congrArg V.int q)]
    · rw [decide_eq_false q, decide_eq_false (fun z => q (V.int.inj z))]
  rw [e]
  exact k
theorem g_neI (k : Q (.bl (!decide (i = j))) H) : rNe (.int i) (.int j) H Q := by
  refine ⟨rfl, ?_⟩
  have e : decide (V.int i = V.int j) = decide (i = j) := by
    by_cases q : i = j
    · rw [decide_eq_true q, decide_eq_true (congrArg V.int q)]
    · rw [decide_eq_false q, decide_eq_false (fun z => q (V.int.inj z))]
  rw [e]
  exact k
theorem g_eqB {b c : Bool} (k : Q (.bl (b == c)) H) : rEq (.bl b) (.bl c) H Q := by
  refine ⟨rfl, ?_⟩
  have e : decide (V.bl b = V.bl c) = (b == c) := by cases b <;> cases c <;> rfl
  rw [e]
  exact k
theorem g_neB {b c : Bool} (k : Q (.bl (b != c)) H) : rNe (.bl b) (.bl c) H Q := by
  refine ⟨rfl, ?_⟩
  have e : (!decide (V.bl b = V.bl c)) = (b != c) := by cases b <;> cases c <;> rfl
  rw [e]
  exact k
theorem g_eqX (h : scal x y = true) (k : Q (.bl (decide (x = y))) H) : rEq x y H Q := ⟨h, k⟩
theorem g_neX (h : scal x y = true) (k : Q (.bl (!decide (x = y))) H) : rNe x y H Q := ⟨h, k⟩
theorem g_isN (k : Q (.bl (decide (x = .non))) H) : rIsN x .non H Q := ⟨rfl, k⟩
theorem g_notN (k : Q (.bl (!decide (x = .non))) H) : rNotN x .non H Q := ⟨rfl, k⟩
theorem g_isBl {b c : Bool} (k : Q (.bl (decide (b = c))) H) : rIsBl (.bl b) (.bl c) H Q := ⟨b, c, rfl, rfl, k⟩
theorem g_addT {z w : Str} (h : z.length + w.length ≤ sizeLine) (k : Q (.str (z ++ w)) H) : rAddT (.str z) (.str w) H Q := ⟨z, w, rfl, rfl, h, k⟩
/-! attributes -/
theorem g_fld1 {fs : List (Str × V)} (z : Own H (ob p C fs :: F)) (c : Cls K C) (n : NoAttr K C f) (e : fs.lookup f = some v) (k : Q v H) : kFld K f Q (.ref p) H := by
  obtain ⟨dx, h⟩ := own_ob z
  exact ⟨p, C, dx, fs, v, rfl, h, c, n, e, k⟩
theorem g_st (k : tv σ H (kSt1 K ta f σ D.nx)) : sFld K ta tv f D σ H := k
theorem g_st1 (k : ta σ H (kSt2 K f y σ P)) : kSt1 K ta f σ P y H := k
theorem g_st2 {fs gs : List (Str × V)} (z : Own H (ob p C fs :: F)) (c : Cls K C) (n : NoAttr K C f) (s : fs.length < 1000) (e : putF f y fs = gs) (k : ∀ H1, Own H1 (ob p C gs :: F) → P σ H1) : kSt2 K f y σ P (.ref p) H := by
  obtain ⟨dx, h⟩ := own_ob z
  subst e
  exact ⟨p, C, dx, fs, rfl, h, c, n, s, k _ (own_ob_set z)⟩
theorem g_au {rd : V → V → Hp → VK → Prop} (k : ta σ H (kAu1 K tv rd f σ D.nx)) : sFldAug K ta tv rd f D σ H := k
theorem g_au1 {rd : V → V → Hp → VK → Prop} {fs : List (Str × V)} (z : Own H (ob p C fs :: F)) (c : Cls K C) (n : NoAttr K C f) (e : fs.lookup f = some v) (k : tv σ H (kAu2 K p C rd v f σ P)) : kAu1 K tv rd f σ P (.ref p) H := by
  obtain ⟨dx, h⟩ := own_ob z
  exact ⟨p, C, dx, fs, v, rfl, h, c, n, e, k⟩
theorem g_au2 {rd : V → V → Hp → VK → Prop} (k : rd v y H (kAu3 K p C f σ P)) : kAu2 K p C rd v f σ P y H := k
theorem g_rAdd (k : Q (.int (i + j)) H) : rAdd (.int i) (.int j) H Q := ⟨i, j, rfl, rfl, k⟩
theorem g_rSub (k : Q (.int (i - j)) H) : rSub (.int i) (.int j) H Q := ⟨i, j, rfl, rfl, k⟩
theorem g_au3 {fs gs : List (Str × V)} (z : Own H (ob p C fs :: F)) (s : fs.length < 1000) (e : putF f y fs = gs) (k : ∀ H1, Own H1 (ob p C gs :: F) → P σ H1) : kAu3 K p C f σ P y H := by
  obtain ⟨dx, h⟩ := own_ob z
  subst e
  exact ⟨dx, fs, h, s, k _ (own_ob_set z)⟩
/-! lists -/
theorem g_len (h : H a = some (.lst xs)) (k : Q (.int xs.length) H) : rLen K [.ref a] H Q := ⟨a, xs, rfl, .inl (SqL.of h), k⟩
theorem g_lenM {α : Type} {g : α → V} {zs : List α} (h : H a = some (.lst (zs.map g))) (k : Q (.int zs.length) H) : rLen K [.ref a] H Q := ⟨a, _, rfl, .inl (SqL.of h), by rw [List.length_map]; exact k⟩
theorem g_lenT (h : H a = some (.tup xs)) (k : Q (.int xs.length) H) : rLen K [.ref a] H Q := ⟨a, xs, rfl, .inr (SqT.of h), k⟩
theorem g_abs (k : Q (.int (if i < 0 then -i else i)) H) : rAbs [.int i] H Q := ⟨i, rfl, k⟩
theorem g_int (k : Q (.int i) H) : rInt [.int i] H Q := .inl ⟨i, rfl, k⟩
theorem g_intB {b : Bool} (k : Q (.int (if b then 1 else 0)) H) : rInt [.bl b] H Q := .inr ⟨b, rfl, k⟩
theorem g_listOf (h : H a = some (.lst xs)) (z : Own H F) (k : ∀ q H1, Own H1 (pt q (.lst xs) :: F) → Q (.ref q) H1) : rList K [.ref a] H Q := ⟨a, xs, rfl, .inl (SqL.of h), fun q nq => k q _ (own_new z nq)⟩
theorem g_append (z : Own H (pt a (.lst xs) :: F)) (s : xs.length < 10000000) (k : ∀ H1, Own H1 (pt a (.lst (xs ++ [y])) :: F) → Q .non H1) : rAppend (.ref a) [y] H Q :=
  ⟨a, xs, y, rfl, rfl, own_pt z, Nat.lt_of_lt_of_le s (by decide), k _ (own_set z rfl)⟩
theorem g_extend (z : Own H (pt a (.lst xs) :: F)) (h : H l = some (.lst ys)) (s : xs.length + ys.length ≤ 10000000) (k : ∀ H1, Own H1 (pt a (.lst (xs ++ ys)) :: F) → Q .non H1) : rExtend (.ref a) [.ref l] H Q :=
  ⟨a, l, xs, ys, rfl, rfl, own_pt z, h, Nat.le_trans s (by decide), k _ (own_set z rfl)⟩
theorem g_pop0 (z : Own H (pt a (.lst (y :: ys)) :: F)) (k : ∀ H1, Own H1 (pt a (.lst ys) :: F) → Q y H1) : rPopAt (.ref a) [.int 0] H Q :=
  ⟨a, y :: ys, 0, 0, y, rfl, rfl, own_pt z, by decide, by decide, by simp [seqIndex?], rfl, k _ (own_set z rfl)⟩
theorem g_popC (z : Own H (pt a (.lst xs) :: F)) (e : xs = y :: ys) (k : ∀ H1, Own H1 (pt a (.lst ys) :: F) → Q y H1) : rPopAt (.ref a) [.int 0] H Q := by
  subst e
  exact g_pop0 z k
theorem g_pop (z : Own H (pt a (.lst (ys ++ [y])) :: F)) (k : ∀ H1, Own H1 (pt a (.lst ys) :: F) → Q y H1) : rPop (.ref a) [] H Q :=
  ⟨a, ys ++ [y], y, rfl, rfl, own_pt z, by simp, by
    have e : (ys ++ [y]).dropLast = ys := by simp
    rw [e]
    exact k _ (own_set z rfl)⟩
theorem g_ixL {i : Int} (h : H a = some (.lst xs)) (e : atI xs i = some v) (k : Q v H) : rIxL K (.ref a) (.int i) H Q := ⟨a, xs, i, v, rfl, rfl, SqL.of h, e, k⟩
theorem g_ixT {i : Int} (h : H a = some (.tup xs)) (e : atI xs i = some v) (k : Q v H) : rIxT K (.ref a) (.int i) H Q := ⟨a, xs, i, v, rfl, rfl, SqT.of h, e, k⟩
theorem g_setL {i : Int} {j : Nat} (z : Own H (pt a (.lst xs) :: F)) (e : ixN xs.length i = some j) (k : ∀ H1, Own H1 (pt a (.lst (xs.set j y)) :: F) → P σ H1) : kSu2 y rSetL (.ref a) σ P (.int i) H :=
  ⟨a, xs, i, j, rfl, rfl, own_pt z, e, k _ (own_set z rfl)⟩
theorem g_cat {zs : List V} (h : H a = some (.lst xs)) (h2 : H l = some (.lst zs)) (z : Own H F) (s : xs.length + zs.length ≤ 10000000) (k : ∀ q H1, Own H1 (pt q (.lst (xs ++ zs)) :: F) → Q (.ref q) H1) : rCat (.ref a) (.ref l) H Q :=
  ⟨a, l, xs, zs, rfl, rfl, h, h2, Nat.le_trans s (by decide), fun q nq => k q _ (own_new z nq)⟩
theorem g_rep {i : Int} (h : H a = some (.lst xs)) (z : Own H F) (s : 0 ≤ i ∧ i ≤ 1000) (s2 : xs.length ≤ 1000) (k : ∀ q H1, Own H1 (pt q (.lst (List.replicate i.toNat xs).flatten) :: F) → Q (.ref q) H1) : rRep (.ref a) (.int i) H Q :=
  ⟨a, i, xs, rfl, rfl, h, by omega, by omega, by
    have e : xs.length * i.toNat ≤ 1000 * 1000 := Nat.mul_le_mul s2 (by omega)
    exact Nat.le_trans e (by decide), fun q nq => k q _ (own_new z nq)⟩
/-! truth -/
theorem g_andV (k : ta σ H (kAndV tb σ Q)) : tAndV ta tb σ H Q := k
theorem g_orV (k : ta σ H (kOrV tb σ Q)) : tOrV ta tb σ H Q := k
theorem g_notV (k : ta σ H (kNotV Q)) : tNotV ta σ H Q := k
theorem g_andV1 {b : Bool} (h1 : b = true → tb σ H Q) (h2 : b = false → Q (.bl false) H) : kAndV tb σ Q (.bl b) H := ⟨b, rfl, by
  cases b with
  | true => exact h1 rfl
  | false => exact h2 rfl⟩
theorem g_orV1 {b : Bool} (h1 : b = true → Q (.bl true) H) (h2 : b = false → tb σ H Q) : kOrV tb σ Q (.bl b) H := ⟨b, rfl, by
  cases b with
  | true => exact h1 rfl
  | false => exact h2 rfl⟩
theorem g_notV1 {b : Bool} (k : Q (.bl (!b)) H) : kNotV Q (.bl b) H := ⟨b, rfl, k⟩
variable {R : Bool → Hp → Prop}
theorem g_test (k : te σ H (kTest R)) : tTest te σ H R := k
theorem g_tB (k : te σ H (kTest R)) : tB te σ H R := k
theorem g_test1 {b : Bool} (k : R b H) : kTest R (.bl b) H := ⟨b, rfl, k⟩
theorem g_and (k : t σ H (kAnd u σ R)) : tAnd t u σ H R := k
theorem g_or (k : t σ H (kOr u σ R)) : tOr t u σ H R := k
theorem g_not (k : t σ H (kNot R)) : tNot t σ H R := k
theorem g_not1 {b : Bool} (k : R (!b) H) : kNot R b H := k
theorem g_and1 {b : Bool} (h1 : b = true → u σ H R) (h2 : b = false → R false H) : kAnd u σ R b H := by
  cases b with
  | true => exact h1 rfl
  | false => exact h2 rfl
theorem g_or1 {b : Bool} (h1 : b = true → R true H) (h2 : b = false → u σ H R) : kOr u σ R b H := by
  cases b with
  | true => exact h1 rfl
  | false => exact h2 rfl
theorem g_if (k : t σ H (kIf ta tb σ Q)) : tIf t ta tb σ H Q := k
theorem g_if1 {b : Bool} (h1 : b = true → ta σ H Q) (h2 : b = false → tb σ H Q) : kIf ta tb σ Q b H := by
  cases b with
  | true => exact h1 rfl
  | false => exact h2 rfl
/-! statements -/
theorem g_seq (k : tt { D with nx := uu D } σ H) : tSeq tt uu D σ H := k
theorem g_next (k : D.nx σ H) : tNext D σ H := k
theorem g_nx {a : St → Hp → Prop} {b : VK} {c d : St → Hp → Prop} (k : a σ H) : Ends.nx ⟨a, b, c, d⟩ σ H := k
theorem g_rt {a : St → Hp → Prop} {b : VK} {c d : St → Hp → Prop} (k : b v H) : Ends.rt ⟨a, b, c, d⟩ v H := k
theorem g_bk {a : St → Hp → Prop} {b : VK} {c d : St → Hp → Prop} (k : c σ H) : Ends.bk ⟨a, b, c, d⟩ σ H := k
theorem g_ct {a : St → Hp → Prop} {b : VK} {c d : St → Hp → Prop} (k : d σ H) : Ends.ct ⟨a, b, c, d⟩ σ H := k
theorem g_asg {i : Nat} (k : te σ H (kSet i σ D.nx)) : tAsg te (gName i) D σ H := k
theorem g_sub (k : te σ H (kSu0 to ti rSetL σ D.nx)) : tAsg te (gSub to ti rSetL) D σ H := k
theorem g_sub0 {s : TSet} (k : to σ H (kSu1 v ti s σ P)) : kSu0 to ti s σ P v H := k
theorem g_sub1 {s : TSet} (k : ti σ H (kSu2 v s x σ P)) : kSu1 v ti s σ P x H := k
theorem g_drop (k : te σ H (kDrop σ D.nx)) : tDrop te D σ H := k
theorem g_drop1 (k : P σ H) : kDrop σ P v H := k
theorem g_ret (k : te σ H D.rt) : tRet te D σ H := k
theorem g_retN (k : D.rt .non H) : tRetN D σ H := k
theorem g_ifS (k : t σ H (kIfS tt uu D σ)) : tIfS t tt uu D σ H := k
theorem g_ifS1 {b : Bool} (h1 : b = true → tt D σ H) (h2 : b = false → uu D σ H) : kIfS tt uu D σ b H := by
  cases b with
  | true => exact h1 rfl
  | false => exact h2 rfl
theorem g_aug {q : Nat} {rd : V → V → Hp → VK → Prop} (h : σ[q]? = some (some x)) (k : te σ H (kLu2 q x rd σ D.nx)) : tAug q te rd D σ H := ⟨x, h, k⟩
theorem g_augA {q : Nat} {g : Int → Int → Int} (k : kSet q σ P (.int (g i j)) H) : kLu2 q (.int i) (ipI g) σ P (.int j) H := ⟨i, j, rfl, rfl, k⟩
variable {s0 s1 s2 s3 s4 s5 s6 s7 s8 s9 sa sb sc sd se sf sg sh si sj : Option V} {ss : List (Option V)}
theorem g_set0 (k : P (some v :: ss) H) : kSet 0 (s0 :: ss) P v H := k
theorem g_set1 (k : P (s0 :: some v :: ss) H) : kSet 1 (s0 :: s1 :: ss) P v H := k
theorem g_set2 (k : P (s0 :: s1 :: some v :: ss) H) : kSet 2 (s0 :: s1 :: s2 :: ss) P v H := k
theorem g_set3 (k : P (s0 :: s1 :: s2 :: some v :: ss) H) : kSet 3 (s0 :: s1 :: s2 :: s3 :: ss) P v H := k
theorem g_set4 (k : P (s0 :: s1 :: s2 :: s3 :: some v :: ss) H) : kSet 4 (s0 :: s1 :: s2 :: s3 :: s4 :: ss) P v H := k
theorem g_set5 (k : P (s0 :: s1 :: s2 :: s3 :: s4 :: some v :: ss) H) : kSet 5 (s0 :: s1 :: s2 :: s3 :: s4 :: s5 :: ss) P v H := k
theorem g_set6 (k : P (s0 :: s1 :: s2 :: s3 :: s4 :: s5 :: some v :: ss) H) : kSet 6 (s0 :: s1 :: s2 :: s3 :: s4 :: s5 :: s6 :: ss) P v H := k
theorem g_set7 (k : P (s0 :: s1 :: s2 :: s3 :: s4 :: s5 :: s6 :: some v :: ss) H) : kSet 7 (s0 :: s1 :: s2 :: s3 :: s4 :: s5 :: s6 :: s7 :: ss) P v H := k
theorem g_set8 (k : P (s0 :: s1 :: s2 :: s3 :: s4 :: s5 :: s6 :: s7 :: some v :: ss) H) : kSet 8 (s0 :: s1 :: s2 :: s3 :: s4 :: s5 :: s6 :: s7 :: s8 :: ss) P v H := k
theorem g_set9 (k : P (s0 :: s1 :: s2 :: s3 :: s4 :: s5 :: s6 :: s7 :: s8 :: some v :: ss) H) : kSet 9 (s0 :: s1 :: s2 :: s3 :: s4 :: s5 :: s6 :: s7 :: s8 :: s9 :: ss) P v H := k
theorem g_set10 (k : P (s0 :: s1 :: s2 :: s3 :: s4 :: s5 :: s6 :: s7 :: s8 :: s9 :: some v :: ss) H) : kSet 10 (s0 :: s1 :: s2 :: s3 :: s4 :: s5 :: s6 :: s7 :: s8 :: s9 :: sa :: ss) P v H := k
theorem g_set11 (k : P (s0 :: s1 :: s2 :: s3 :: s4 :: s5 :: s6 :: s7 :: s8 :: s9 :: sa :: some v :: ss) H) : kSet 11 (s0 :: s1 :: s2 :: s3 :: s4 :: s5 :: s6 :: s7 :: s8 :: s9 :: sa :: sb :: ss) P v H := k
theorem g_set12 (k : P (s0 :: s1 :: s2 :: s3 :: s4 :: s5 :: s6 :: s7 :: s8 :: s9 :: sa :: sb :: some v :: ss) H) : kSet 12 (s0 :: s1 :: s2 :: s3 :: s4 :: s5 :: s6 :: s7 :: s8 :: s9 :: sa :: sb :: sc :: ss) P v H := k
theorem g_set13 (k : P (s0 :: s1 :: s2 :: s3 :: s4 :: s5 :: s6 :: s7 :: s8 :: s9 :: sa :: sb :: sc :: some v :: ss) H) : kSet 13 (s0 :: s1 :: s2 :: s3 :: s4 :: s5 :: s6 :: s7 :: s8 :: s9 :: sa :: sb :: sc :: sd :: ss) P v H := k
theorem g_set14 (k : P (s0 :: s1 :: s2 :: s3 :: s4 :: s5 :: s6 :: s7 :: s8 :: s9 :: sa :: sb :: sc :: sd :: some v :: ss) H) : kSet 14 (s0 :: s1 :: s2 :: s3 :: s4 :: s5 :: s6 :: s7 :: s8 :: s9 :: sa :: sb :: sc :: sd :: se :: ss) P v H := k
theorem g_set15 (k : P (s0 :: s1 :: s2 :: s3 :: s4 :: s5 :: s6 :: s7 :: s8 :: s9 :: sa :: sb :: sc :: sd :: se :: some v :: ss) H) : kSet 15 (s0 :: s1 :: s2 :: s3 :: s4 :: s5 :: s6 :: s7 :: s8 :: s9 :: sa :: sb :: sc :: sd :: se :: sf :: ss) P v H := k
theorem g_set16 (k : P (s0 :: s1 :: s2 :: s3 :: s4 :: s5 :: s6 :: s7 :: s8 :: s9 :: sa :: sb :: sc :: sd :: se :: sf :: some v :: ss) H) : kSet 16 (s0 :: s1 :: s2 :: s3 :: s4 :: s5 :: s6 :: s7 :: s8 :: s9 :: sa :: sb :: sc :: sd :: se :: sf :: sg :: ss) P v H := k
theorem g_set17 (k : P (s0 :: s1 :: s2 :: s3 :: s4 :: s5 :: s6 :: s7 :: s8 :: s9 :: sa :: sb :: sc :: sd :: se :: sf :: sg :: some v :: ss) H) : kSet 17 (s0 :: s1 :: s2 :: s3 :: s4 :: s5 :: s6 :: s7 :: s8 :: s9 :: sa :: sb :: sc :: sd :: se :: sf :: sg :: sh :: ss) P v H := k
theorem g_set18 (k : P (s0 :: s1 :: s2 :: s3 :: s4 :: s5 :: s6 :: s7 :: s8 :: s9 :: sa :: sb :: sc :: sd :: se :: sf :: sg :: sh :: some v :: ss) H) : kSet 18 (s0 :: s1 :: s2 :: s3 :: s4 :: s5 :: s6 :: s7 :: s8 :: s9 :: sa :: sb :: sc :: sd :: se :: sf :: sg :: sh :: si :: ss) P v H := k
/-! loops -/
variable {wi : TI} {g : TG}
theorem g_for (k : wi σ H (kFor g ts D σ)) : tFor wi g ts D σ H := k
theorem g_lc {vs : List Nat} (k : wi σ H (kLc g t te vs σ Q)) : tLc wi g t te vs σ H Q := k
variable {I0 : It → Hp → Prop}
theorem g_iList (k : ta σ H (kListI K I0)) : iList K ta σ H I0 := k
theorem g_iTup (k : ta σ H (kTupI K I0)) : iTup K ta σ H I0 := k
theorem g_iRng1 (k : tr σ H (kRng1 I0)) : iRng1 tr σ H I0 := k
theorem g_iRng2 (k : tr σ H (kRng2 I0)) : iRng2 tr σ H I0 := k
theorem g_iList1 (h : H a = some (.lst xs)) (k : I0 (Itl K a) H) : kListI K I0 (.ref a) H := ⟨a, rfl, ⟨xs, SqL.of h⟩, k⟩
theorem g_iTup1 (h : H a = some (.tup xs)) (k : I0 (Itt K a) H) : kTupI K I0 (.ref a) H := ⟨a, rfl, ⟨xs, SqT.of h⟩, k⟩
theorem g_iRng1A {n : Int} (h : -(2 ^ 62) ≤ n ∧ n < 2 ^ 62) (k : I0 (Itr 0 n.toNat) H) : kRng1 I0 [.int n] H := ⟨n, rfl, h.1, h.2, k⟩
theorem g_iRng1N {n : Nat} (h : n < 2 ^ 62) (k : I0 (Itr 0 n) H) : kRng1 I0 [.int (n : Int)] H := ⟨n, rfl, by omega, by omega, k⟩
theorem g_iRng2A {i n : Int} (h : (-(2 ^ 62) ≤ i ∧ i < 2 ^ 62 ∧ -(2 ^ 62) ≤ n ∧ n < 2 ^ 62)) (k : I0 (Itr i (n - i).toNat) H) : kRng2 I0 [.int i, .int n] H := ⟨i, n, rfl, h, k⟩
variable {a1 a3 a4 : St → Hp → Prop} {a2 : VK}
/-- for i in range(n): W what holds ahead of turn i -/
theorem loop_range {n q : Nat} (W : Nat → St → Hp → Prop) (h0 : W 0 σ H)
    (hs : ∀ (i : Nat) σ' H', i < n → W i σ' H' → kSet q σ' (ts ⟨W (i + 1), a2, a1, W (i + 1)⟩) (.int (i : Int)) H') (hd : ∀ σ' H', W n σ' H' → a1 σ' H') : kFor (gName q) ts ⟨a1, a2, a3, a4⟩ σ (Itr 0 n) H :=
  for_range W h0 (fun i σ' H' hi w => by
    have z := hs i σ' H' hi w
    rw [show (i : Int) = 0 + (i : Int) from (Int.zero_add _).symm] at z
    exact z) hd
theorem loop_range2 {lo : Int} {n q : Nat} (W : Nat → St → Hp → Prop) (h0 : W 0 σ H)
    (hs : ∀ (i : Nat) σ' H', i < n → W i σ' H' → kSet q σ' (ts ⟨W (i + 1), a2, a1, W (i + 1)⟩) (.int (lo + (i : Int))) H') (hd : ∀ σ' H', W n σ' H' → a1 σ' H') : kFor (gName q) ts ⟨a1, a2, a3, a4⟩ σ (Itr lo n) H :=
  for_range W h0 (fun i σ' H' hi w => hs i σ' H' hi w) hd
/-- for x in a list that stands still -/
theorem loop_list {q : Nat} (W : Nat → St → Hp → Prop) (h0 : W 0 σ H) (hl : ∀ i σ' H', W i σ' H' → H' a = some (.lst xs))
    (hs : ∀ (i : Nat) x σ' H', xs[i]? = some x → W i σ' H' → kSet q σ' (ts ⟨W (i + 1), a2, a1, W (i + 1)⟩) x H') (hd : ∀ σ' H', W xs.length σ' H' → a1 σ' H') : kFor (gName q) ts ⟨a1, a2, a3, a4⟩ σ (Itl K a) H :=
  for_list (xs := xs) W h0 (fun i σ' H' _ w => SqL.of (hl i σ' H' w)) (fun i x σ' H' hi w => hs i x σ' H' hi w) hd
/-- the script: frozen, or of the written part -/
theorem loop_listS {q : Nat} (W : Nat → St → Hp → Prop) (h0 : W 0 σ H) (hl : ∀ i σ' H', W i σ' H' → SqL K H' a xs)
    (hs : ∀ (i : Nat) x σ' H', xs[i]? = some x → W i σ' H' → kSet q σ' (ts ⟨W (i + 1), a2, a1, W (i + 1)⟩) x H') (hd : ∀ σ' H', W xs.length σ' H' → a1 σ' H') : kFor (gName q) ts ⟨a1, a2, a3, a4⟩ σ (Itl K a) H :=
  for_list (xs := xs) W h0 (fun i σ' H' _ w => hl i σ' H' w) (fun i x σ' H' hi w => hs i x σ' H' hi w) hd
/-- while: W what holds ahead of a turn, m falls -/
def kWh (tb : TS) (W : Nat → St → Hp → Prop) (m : Nat) (D : Ends) (σ : St) : Bool → Hp → Prop := fun b H1 =>
  if b = true then ∃ N : St → Hp → Prop, (∀ σ' H', N σ' H' → ∃ m', m' < m ∧ W m' σ' H') ∧ tb { D with nx := N, ct := N, bk := D.nx } σ H1 else D.nx σ H1
theorem loop_while (W : Nat → St → Hp → Prop) (m0 : Nat) (h0 : W m0 σ H) (hs : ∀ m σ' H', W m σ' H' → t σ' H' (kWh ts W m D σ')) : tWhile t ts D σ H := ⟨W, ⟨m0, h0⟩, hs⟩
theorem g_wh {W : Nat → St → Hp → Prop} {m : Nat} {b : Bool} (h1 : b = true → ts ⟨fun σ2 H2 => ∃ m', m' < m ∧ W m' σ2 H2, a2, a1, fun σ2 H2 => ∃ m', m' < m ∧ W m' σ2 H2⟩ σ H) (h2 : b = false → a1 σ H) : kWh ts W m ⟨a1, a2, a3, a4⟩ σ b H := by
  cases b with
  | true => exact ⟨_, fun σ' H' z => z, h1 rfl⟩
  | false => exact h2 rfl
theorem ixN_1 {n : Nat} : ixN (n + 2) 1 = some 1 := by
  unfold ixN
  rw [if_pos (by decide), if_pos (by omega)] <;> rfl
theorem atI_0 {α : Type} {z : α} {zs : List α} : atI (z :: zs) 0 = some z := atI_nat (j := 0) rfl
theorem ixN_0 {n : Nat} : ixN (n + 1) 0 = some 0 := by
  unfold ixN
  rw [if_pos (Int.le_refl 0), if_pos (by omega)] <;> rfl
theorem atI_1 {α : Type} {z w : α} {zs : List α} : atI (z :: w :: zs) 1 = some w := atI_nat (j := 1) rfl
theorem atI_2 {α : Type} {z w u : α} {zs : List α} : atI (z :: w :: u :: zs) 2 = some u := atI_nat (j := 2) rfl
theorem ixN_at {n : Nat} {i : Int} (h : 0 ≤ i) (h2 : i < n) : ixN n i = some i.toNat := by
  unfold ixN
  rw [if_pos h, if_pos h2]
/-- a list as the script's (frozen, of the written part, tracked) -/
structure sq (K : PySem.W.Frag) (a : Addr) (xs : List V) (h : Hp) : Prop where
  e : SqL K h a xs
theorem own_sq (z : Own H (sq K a xs :: F)) : SqL K H a xs := by
  obtain ⟨h, q, s⟩ := z.at1
  have q' : SqL K h a xs := q.e
  rcases q' with (q | ⟨o, q⟩) | q
  · exact .inl (.inl (s _ _ q))
  · exact .inl (.inr ⟨o, s _ _ q⟩)
  · exact .inr q
theorem sq_own (h : SqL K H a xs) : Own H [sq K a xs] := .cons H (fun _ => none) ⟨h⟩ .nil (Sub.refl H) sub_non (fun _ _ _ _ e => nomatch e)
theorem g_iListS (z : Own H (sq K a xs :: F)) (k : I0 (Itl K a) H) : kListI K I0 (.ref a) H := ⟨a, rfl, ⟨xs, own_sq z⟩, k⟩
theorem g_lenSq (z : Own H (sq K a xs :: F)) (k : Q (.int xs.length) H) : rLen K [.ref a] H Q := ⟨a, xs, rfl, .inl (own_sq z), k⟩
theorem g_sliceS {lo hi : Option Int} (z : Own H (sq K a xs :: F)) (k : ∀ q H1, Own H1 (pt q (.lst (cutV xs lo hi)) :: sq K a xs :: F) → Q (.ref q) H1) : rSlL K (.ref a) lo hi H Q := ⟨a, xs, rfl, own_sq z, fun q nq => k q _ (own_new z nq)⟩
theorem g_slice {lo hi : Option Int} (h : H a = some (.lst xs)) (z : Own H F) (k : ∀ q H1, Own H1 (pt q (.lst (cutV xs lo hi)) :: F) → Q (.ref q) H1) : rSlL K (.ref a) lo hi H Q := ⟨a, xs, rfl, SqL.of h, fun q nq => k q _ (own_new z nq)⟩
def kSl3 (r : V → Option Int → Option Int → Hp → VK → Prop) (x : V) (lo : Option Int) (Q : VK) : Option Int → Hp → Prop := fun u H3 => r x lo u H3 Q
def kSl2 (r : V → Option Int → Option Int → Hp → VK → Prop) (x : V) (th : TO) (σ : St) (Q : VK) : Option Int → Hp → Prop := fun l H2 => th σ H2 (kSl3 r x l Q)
def kSl1 (r : V → Option Int → Option Int → Hp → VK → Prop) (tl th : TO) (σ : St) (Q : VK) : VK := fun x H1 => tl σ H1 (kSl2 r x th σ Q)
def kSo (R : Option Int → Hp → Prop) : VK := fun x H1 => ∃ i, x = .int i ∧ R (some i) H1
section
variable {rs : V → Option Int → Option Int → Hp → VK → Prop} {tl th : TO} {lo hi : Option Int} {RO : Option Int → Hp → Prop}
theorem g_sl (k : ta σ H (kSl1 rs tl th σ Q)) : L2.tSl rs ta tl th σ H Q := k
theorem g_sl1 (k : tl σ H (kSl2 rs x th σ Q)) : kSl1 rs tl th σ Q x H := k
theorem g_sl2 (k : th σ H (kSl3 rs x lo Q)) : kSl2 rs x th σ Q lo H := k
theorem g_sl3 (k : rs x lo hi H Q) : kSl3 rs x lo Q hi H := k
theorem g_so (k : ta σ H (kSo RO)) : tPart ta σ H RO := k
theorem g_so1 (k : RO (some i) H) : kSo RO (.int i) H := ⟨i, rfl, k⟩
theorem g_no (k : RO none H) : tNoPart σ H RO := k
end
/-! targets -/
section
variable {t1 : TG} {u1 : TGs} {q : Nat}
def kGc (u : TGs) (r : List V) (P : St → Hp → Prop) : St → Hp → Prop := fun σ' H' => u r σ' H' P
theorem g_gname (k : kSet q σ P x H) : gName q x σ H P := k
theorem g_gtup {n : Nat} (h : H a = some (.tup xs)) (l : xs.length = n) (k : u1 xs σ H P) : gTup K n u1 (.ref a) σ H P := ⟨a, xs, rfl, SqT.of h, l, k⟩
theorem g_gcons (k : t1 v σ H (kGc u1 xs P)) : gCons t1 u1 (v :: xs) σ H P := ⟨v, xs, rfl, k⟩
theorem g_gc (k : u1 xs σ H P) : kGc u1 xs P σ H := k
theorem g_gnil (k : P σ H) : gNil [] σ H P := ⟨rfl, k⟩
theorem g_asgT {n : Nat} (k : te σ H (fun x H1 => gTup K n u1 x σ H1 D.nx)) : tAsg te (gTup K n u1) D σ H := k
theorem g_tYes {R : Bool → Hp → Prop} (k : R true H) : tYes σ H R := k
end
theorem loop_listG {g : TG} (W : Nat → St → Hp → Prop) (h0 : W 0 σ H) (hl : ∀ i σ' H', W i σ' H' → H' a = some (.lst xs))
    (hs : ∀ (i : Nat) x σ' H', xs[i]? = some x → W i σ' H' → g x σ' H' (ts ⟨W (i + 1), a2, a1, W (i + 1)⟩)) (hd : ∀ σ' H', W xs.length σ' H' → a1 σ' H') : kFor g ts ⟨a1, a2, a3, a4⟩ σ (Itl K a) H :=
  for_list (xs := xs) W h0 (fun i σ' H' _ w => SqL.of (hl i σ' H' w)) (fun i x σ' H' hi w => hs i x σ' H' hi w) hd
/-! comprehensions: the list grows, W what else is held; Y a kept item, N none -/
def kCi (te : TE) (σ2 : St) (Y : VK) (N : Hp → Prop) : Bool → Hp → Prop := fun b H3 => if b = true then te σ2 H3 Y else N H3
def kWp (vs : List Nat) (σ0 : St) (t : TT) (te : TE) (Y : VK) (N : Hp → Prop) : St → Hp → Prop := fun σ2 H2 => wipe σ2 vs = σ0 ∧ t σ2 H2 (kCi te σ2 Y N)
section
variable {Y : VK} {N : Hp → Prop} {vs : List Nat} {σ0 : St}
theorem g_wp (h : wipe σ vs = σ0) (k : t σ H (kCi te σ Y N)) : kWp vs σ0 t te Y N σ H := ⟨h, k⟩
theorem g_ciT (k : te σ H Y) : kCi te σ Y N true H := by
  show (if true = true then _ else _)
  rw [if_pos rfl]
  exact k
theorem g_ci {b : Bool} (h1 : b = true → te σ H Y) (h2 : b = false → N H) : kCi te σ Y N b H := by
  cases b with
  | true => exact h1 rfl
  | false => exact h2 rfl
theorem size_of {n : Nat} (h : n ≤ 1000000) : n < sizeLine := Nat.lt_of_le_of_lt h (by decide)
theorem comp_range {n : Nat} {g : TG} (σ0 : St) (hn : n ≤ 1000000) (hw : wipe σ vs = σ0) (W : Nat → List V → List Atom) (z : Own H (W 0 []))
    (hs : ∀ (i : Nat) acc (G : Atom) H' (Y : VK) (N : Hp → Prop), i < n → acc.length ≤ i → Own H' (G :: W i acc) → (∀ y H4, Own H4 (G :: W (i + 1) (acc ++ [y])) → Y y H4) → (∀ H3, Own H3 (G :: W (i + 1) acc) → N H3) → g (.int (i : Int)) σ0 H' (kWp vs σ0 t te Y N))
    (hd : ∀ acc D H', acc.length ≤ n → Own H' (pt D (.lst acc) :: W n acc) → Q (.ref D) H') : kLc g t te vs σ Q (Itr 0 n) H := by
  subst hw
  intro D hD
  refine lc_range (lo := 0) (n := n) (fun i H' => ∃ acc : List V, acc.length ≤ i ∧ Own H' (pt D (.lst acc) :: W i acc)) ⟨[], Nat.le_refl _, own_new z hD⟩ (fun i H' hi ⟨acc, hl, w⟩ => ?_) (fun H' ⟨acc, hl, w⟩ => hd acc D H' hl w)
  have q := hs i acc _ H' (fun y H4 => ∃ acc, H4 D = some (.lst acc) ∧ acc.length < sizeLine ∧ ∃ acc2 : List V, acc2.length ≤ i + 1 ∧ Own (upd H4 D (.lst (acc ++ [y]))) (pt D (.lst acc2) :: W (i + 1) acc2)) (fun H3 => ∃ acc2 : List V, acc2.length ≤ i + 1 ∧ Own H3 (pt D (.lst acc2) :: W (i + 1) acc2)) hi hl w
    (fun y H4 x => ⟨acc, own_pt x, size_of (by omega), acc ++ [y], by rw [List.length_append, List.length_singleton]; omega, own_set x rfl⟩) (fun H3 x => ⟨acc, by omega, x⟩)
  rw [show (i : Int) = 0 + (i : Int) from (Int.zero_add _).symm] at q
  exact q
theorem comp_list {g : TG} (σ0 : St) (hn : xs.length ≤ 1000000) (hw : wipe σ vs = σ0) (W : Nat → List V → List Atom) (z : Own H (W 0 [])) (hl : ∀ i acc H', Own H' (W i acc) → SqL K H' a xs)
    (hs : ∀ (i : Nat) x acc (G : Atom) H' (Y : VK) (N : Hp → Prop), xs[i]? = some x → acc.length ≤ i → Own H' (G :: W i acc) → (∀ y H4, Own H4 (G :: W (i + 1) (acc ++ [y])) → Y y H4) → (∀ H3, Own H3 (G :: W (i + 1) acc) → N H3) → g x σ0 H' (kWp vs σ0 t te Y N))
    (hd : ∀ acc D H', acc.length ≤ xs.length → Own H' (pt D (.lst acc) :: W xs.length acc) → Q (.ref D) H') : kLc g t te vs σ Q (Itl K a) H := by
  subst hw
  intro D hD
  refine lc_list (xs := xs) (fun i H' => ∃ acc : List V, acc.length ≤ i ∧ Own H' (pt D (.lst acc) :: W i acc)) ⟨[], Nat.le_refl _, own_new z hD⟩ (fun i H' _ ⟨acc, _, w⟩ => hl i acc H' w.tail) (fun i x H' hi ⟨acc, hl, w⟩ => ?_) (fun H' ⟨acc, hl, w⟩ => hd acc D H' hl w)
  have hi2 : i < xs.length := (List.getElem?_eq_some_iff.mp hi).1
  exact hs i x acc _ H' (fun y H4 => ∃ acc, H4 D = some (.lst acc) ∧ acc.length < sizeLine ∧ ∃ acc2 : List V, acc2.length ≤ i + 1 ∧ Own (upd H4 D (.lst (acc ++ [y]))) (pt D (.lst acc2) :: W (i + 1) acc2)) (fun H3 => ∃ acc2 : List V, acc2.length ≤ i + 1 ∧ Own H3 (pt D (.lst acc2) :: W (i + 1) acc2)) hi hl w
    (fun y H4 x => ⟨acc, own_pt x, size_of (by omega), acc ++ [y], by rw [List.length_append, List.length_singleton]; omega, own_set x rfl⟩) (fun H3 x => ⟨acc, by omega, x⟩)
end
end
end SL
end

section
set_option Elab.async false
set_option linter.all false
set_option maxRecDepth 100000
/-! SL2: attributes by names: what a written list of attributes holds. -/
namespace SL
open PySem L2
class Cl (K : PySem.W.Frag) (C : Addr) : Prop where
  h : Cls K C
class Na (K : PySem.W.Frag) (C : Addr) (f : Str) : Prop where
  h : NoAttr K C f
class Lk (fs : List (Str × V)) (f : Str) (v : outParam V) : Prop where
  h : fs.lookup f = some v
class Lm (fs : List (Str × V)) (m : Str) : Prop where
  h : fs.lookup m = none
class Pf (f : Str) (y : V) (fs : List (Str × V)) (gs : outParam (List (Str × V))) : Prop where
  h : putF f y fs = gs
class Ln (fs : List (Str × V)) : Prop where
  h : fs.length < 1000
class Mn (A : Atom) (p C : Addr) (m : Str) : Prop where
  h : ∀ h, A h → ∃ dx fs, h p = some (.ins C dx fs) ∧ fs.lookup m = none

theorem lookup_zip : ∀ {ks : List Str} {vs : List V} {i : Nat} {f : Str} {v : V}, ks.Nodup → ks[i]? = some f → vs[i]? = some v → (ks.zip vs).lookup f = some v
  | [], _, _, _, _, _, h, _ => by simp at h
  | _ :: _, [], _, _, _, _, _, h => by simp at h
  | k :: ks, w :: vs, 0, f, v, _, h1, h2 => by
    simp at h1 h2
    subst h1 h2
    show (match k == k with | true => some w | false => _) = _
    rw [beq_self_eq_true]
  | k :: ks, w :: vs, i + 1, f, v, nd, h1, h2 => by
    have m : f ∈ ks := List.mem_of_getElem? (by simpa using h1)
    have ne : f ≠ k := fun e => (List.nodup_cons.mp nd).1 (e ▸ m)
    show (match f == k with | true => some w | false => (ks.zip vs).lookup f) = _
    rw [beq_eq_false_iff_ne.mpr ne]
    exact lookup_zip (List.nodup_cons.mp nd).2 (by simpa using h1) (by simpa using h2)
theorem lookup_zip_none : ∀ {ks : List Str} {vs : List V} {f : Str}, f ∉ ks → (ks.zip vs).lookup f = none
  | [], _, _, _ => rfl
  | _ :: _, [], _, _ => rfl
  | k :: ks, w :: vs, f, h => by
    have ne : f ≠ k := fun e => h (e ▸ List.mem_cons_self ..)
    show (match f == k with | true => some w | false => (ks.zip vs).lookup f) = none
    rw [beq_eq_false_iff_ne.mpr ne]
    exact lookup_zip_none fun m => h (List.mem_cons_of_mem _ m)
theorem putF_zip : ∀ {ks : List Str} {vs : List V} {i : Nat} {f : Str} {y : V}, ks.Nodup → ks[i]? = some f → vs.length = ks.length → putF f y (ks.zip vs) = ks.zip (vs.set i y)
  | [], _, _, _, _, _, h, _ => by simp at h
  | _ :: _, [], _, _, _, _, _, h => by simp at h
  | k :: ks, w :: vs, 0, f, y, _, h1, _ => by
    simp at h1
    subst h1
    show (if k = k then (k, y) :: ks.zip vs else _) = _
    rw [if_pos rfl] <;> rfl
  | k :: ks, w :: vs, i + 1, f, y, nd, h1, hl => by
    have m : f ∈ ks := List.mem_of_getElem? (by simpa using h1)
    have ne : ¬ k = f := fun e => (List.nodup_cons.mp nd).1 (e ▸ m)
    show (if k = f then (k, y) :: ks.zip vs else (k, w) :: putF f y (ks.zip vs)) = (k, w) :: ks.zip (vs.set i y)
    rw [if_neg ne, putF_zip (List.nodup_cons.mp nd).2 (by simpa using h1) (by simpa using hl)]
theorem putF_new : ∀ {fs : List (Str × V)} {f : Str} {y : V}, f ∉ fs.map (·.1) → putF f y fs = fs ++ [(f, y)]
  | [], _, _, _ => rfl
  | (k, w) :: r, f, y, h => by
    have ne : ¬ k = f := fun e => h (by rw [e]; exact List.mem_cons_self ..)
    show (if k = f then (k, y) :: r else (k, w) :: putF f y r) = (k, w) :: (r ++ [(f, y)])
    rw [if_neg ne, putF_new fun m => h (List.mem_cons_of_mem _ m)]

section
variable {K : PySem.W.Frag} {σ : St} {H : Hp} {Q : VK} {ta tv : TE} {tr : TA} {P : St → Hp → Prop} {v x y : V} {f m : Str} {p C : Addr} {F : List Atom} {vs : List V} {fs gs : List (Str × V)}
instance {p C : Addr} {fs : List (Str × V)} {m : Str} [l : Lm fs m] : Mn (ob p C fs) p C m := ⟨fun _ ⟨⟨dx, e⟩⟩ => ⟨dx, fs, e, l.h⟩⟩
theorem h_fld1 (z : Own H (ob p C fs :: F)) [c : Cl K C] [n : Na K C f] [e : Lk fs f v] (k : Q v H) : kFld K f Q (.ref p) H := g_fld1 z c.h n.h e.h k
theorem h_st2 (z : Own H (ob p C fs :: F)) [c : Cl K C] [n : Na K C f] [s : Ln fs] [e : Pf f y fs gs] (k : ∀ H1, Own H1 (ob p C gs :: F) → P σ H1) : kSt2 K f y σ P (.ref p) H := g_st2 z c.h n.h s.h e.h k
theorem h_au1 {rd : V → V → Hp → VK → Prop} (z : Own H (ob p C fs :: F)) [c : Cl K C] [n : Na K C f] [e : Lk fs f v] (k : tv σ H (kAu2 K p C rd v f σ P)) : kAu1 K tv rd f σ P (.ref p) H := g_au1 z c.h n.h e.h k
theorem h_au3 (z : Own H (ob p C fs :: F)) [s : Ln fs] [e : Pf f y fs gs] (k : ∀ H1, Own H1 (ob p C gs :: F) → P σ H1) : kAu3 K p C f σ P y H := g_au3 z s.h e.h k
theorem h_meth1 {sp : Sp} {dvs : List V} {E : XK} {A : Atom} (z : Own H (A :: F)) (n : Mn A p C m) (k : tr σ H (kMethA sp (.ref p) dvs E Q)) : kMeth C m sp dvs E tr σ Q (.ref p) H := by
  obtain ⟨h, q, s⟩ := z.at1
  obtain ⟨dx, fs, e1, e2⟩ := n.h h q
  exact g_meth1 ⟨dx, fs, s _ _ e1, e2⟩ k
end
instance : Ln [] := ⟨by decide⟩
end SL
end

section
set_option Elab.async false
set_option linter.all false
set_option maxRecDepth 100000
/-! SL3: the straight steps, found by their heads. -/
namespace SL
open PySem L2
def kUn (ru : V → Hp → VK → Prop) (Q : VK) : VK := fun x H1 => ru x H1 Q
def rNegI : V → Hp → VK → Prop := rU fun i => .int (-i)
theorem un_negI {X : Cx} : UnR X (unaryOp .USub) rNegI := un_neg
def kGt (K : PySem.W.Frag) (n : Nat) (u1 : TGs) (σ : St) (P : St → Hp → Prop) : VK := fun x H1 => gTup K n u1 x σ H1 P
/-- one step or more; any number of steps -/
class Rd1 (G : Prop) (G' : outParam Prop) : Prop where
  h : G' → G
class Rd (G : Prop) (G' : outParam Prop) : Prop where
  h : G' → G
instance (priority := low) rd_none {G : Prop} : Rd G G := ⟨fun x => x⟩
instance (priority := high) rd_some {G G' : Prop} [r : Rd1 G G'] : Rd G G' := ⟨r.h⟩
section
variable {K : PySem.W.Frag} {σ : St} {H : Hp} {Q Y : VK} {ta tb te tv to ti : TE} {t u : TT} {tt uu ts : TS} {tr tk : TA} {P : St → Hp → Prop} {D : Ends} {v x y : V} {f m : Str} {p C : Addr} {r : R2} {i j : Int} {b c : Bool} {n : Nat} {vs xs : List V} {ns : List Nat}
  {RL : List V → Hp → Prop} {RB : Bool → Hp → Prop} {RO : Option Int → Hp → Prop} {sp : Sp} {dvs : List V} {E : XK} {rr : List V → Hp → VK → Prop} {rm : V → List V → Hp → VK → Prop} {T : String} {ru : V → Hp → VK → Prop} {rd : V → V → Hp → VK → Prop} {gi : Int → Int → Int}
  {a1 a3 a4 : St → Hp → Prop} {a2 : VK} {rs : TSet} {u1 : TGs} {t1 g : TG} {wi : TI} {I0 : It → Hp → Prop} {N : Hp → Prop} {rs3 : V → Option Int → Option Int → Hp → VK → Prop} {tl th : TO} {lo hi : Option Int} {G' : Prop}
instance rd_0 [q : Rd (Q v H) G'] : Rd1 (tC v σ H Q) G' := ⟨fun z => (show tC v σ H Q from let k : Q v H := q.h z; k)⟩
instance rd_1 [q : Rd (ta σ H (kFld K f Q)) G'] : Rd1 (tFld K ta f σ H Q) G' := ⟨fun z => (show tFld K ta f σ H Q from let k : ta σ H (kFld K f Q) := q.h z; k)⟩
instance rd_2 [q : Rd (ta σ H (kOp1 r tb σ Q)) G'] : Rd1 (tOp r ta tb σ H Q) G' := ⟨fun z => (show tOp r ta tb σ H Q from let k : ta σ H (kOp1 r tb σ Q) := q.h z; k)⟩
instance rd_3 [q : Rd (tb σ H (kOp2 r x Q)) G'] : Rd1 (kOp1 r tb σ Q x H) G' := ⟨fun z => (show kOp1 r tb σ Q x H from let k : tb σ H (kOp2 r x Q) := q.h z; k)⟩
instance rd_4 [q : Rd (r x y H Q) G'] : Rd1 (kOp2 r x Q y H) G' := ⟨fun z => (show kOp2 r x Q y H from let k : r x y H Q := q.h z; k)⟩
instance rd_5 [q : Rd (RL [] H) G'] : Rd1 (tNil σ H RL) G' := ⟨fun z => (show tNil σ H RL from let k : RL [] H := q.h z; k)⟩
instance rd_6 [q : Rd (ta σ H (kCons1 tr σ RL)) G'] : Rd1 (tCons ta tr σ H RL) G' := ⟨fun z => (show tCons ta tr σ H RL from let k : ta σ H (kCons1 tr σ RL) := q.h z; k)⟩
instance rd_7 [q : Rd (tr σ H (kCons2 x RL)) G'] : Rd1 (kCons1 tr σ RL x H) G' := ⟨fun z => (show kCons1 tr σ RL x H from let k : tr σ H (kCons2 x RL) := q.h z; k)⟩
instance rd_8 [q : Rd (RL (x :: xs) H) G'] : Rd1 (kCons2 x RL xs H) G' := ⟨fun z => (show kCons2 x RL xs H from let k : RL (x :: xs) H := q.h z; k)⟩
instance rd_9 [q : Rd (tr σ H (kCall sp dvs E Q)) G'] : Rd1 (tCall sp dvs E tr σ H Q) G' := ⟨fun z => (show tCall sp dvs E tr σ H Q from let k : tr σ H (kCall sp dvs E Q) := q.h z; k)⟩
instance rd_10 [q : Rd (sp vs H Q E) G'] : Rd1 (kCall sp [] E Q vs H) G' := ⟨fun z => (show kCall sp [] E Q vs H from let k : sp vs H Q E := q.h z; g_callA k)⟩
instance rd_11 [q : Rd (ta σ H (kMeth C m sp dvs E tr σ Q)) G'] : Rd1 (tMeth C m sp dvs E ta tr σ H Q) G' := ⟨fun z => (show tMeth C m sp dvs E ta tr σ H Q from let k : ta σ H (kMeth C m sp dvs E tr σ Q) := q.h z; k)⟩
instance rd_12 [q : Rd (sp (x :: vs) H Q E) G'] : Rd1 (kMethA sp x [] E Q vs H) G' := ⟨fun z => (show kMethA sp x [] E Q vs H from let k : sp (x :: vs) H Q E := q.h z; g_methA k)⟩
instance rd_13 [q : Rd (tr σ H (kMake C sp dvs E Q)) G'] : Rd1 (tMake C sp dvs E tr σ H Q) G' := ⟨fun z => (show tMake C sp dvs E tr σ H Q from let k : tr σ H (kMake C sp dvs E Q) := q.h z; k)⟩
instance rd_14 [q : Rd (Q (.ref p) H) G'] : Rd1 (kMade p Q .non H) G' := ⟨fun z => (show kMade p Q .non H from let k : Q (.ref p) H := q.h z; g_made k)⟩
instance rd_15 [q : Rd (tr σ H (kCB rr Q)) G'] : Rd1 (tCB rr tr σ H Q) G' := ⟨fun z => (show tCB rr tr σ H Q from let k : tr σ H (kCB rr Q) := q.h z; k)⟩
instance rd_16 [q : Rd (rr vs H Q) G'] : Rd1 (kCB rr Q vs H) G' := ⟨fun z => (show kCB rr Q vs H from let k : rr vs H Q := q.h z; k)⟩
instance rd_17 [q : Rd (to σ H (kBM K T rm tr σ Q)) G'] : Rd1 (tBM K T rm to tr σ H Q) G' := ⟨fun z => (show tBM K T rm to tr σ H Q from let k : to σ H (kBM K T rm tr σ Q) := q.h z; k)⟩
instance rd_18 [q : Rd (to σ H (kBM0 K T rm Q)) G'] : Rd1 (tBM0 K T rm to σ H Q) G' := ⟨fun z => (show tBM0 K T rm to σ H Q from let k : to σ H (kBM0 K T rm Q) := q.h z; k)⟩
instance rd_19 [q : Rd (rm x vs H Q) G'] : Rd1 (kBM2 rm x Q vs H) G' := ⟨fun z => (show kBM2 rm x Q vs H from let k : rm x vs H Q := q.h z; k)⟩
instance rd_20 [q : Rd (tr σ H (kTup Q)) G'] : Rd1 (tTup tr σ H Q) G' := ⟨fun z => (show tTup tr σ H Q from let k : tr σ H (kTup Q) := q.h z; k)⟩
instance rd_21 [q : Rd (tr σ H (kLst Q)) G'] : Rd1 (tLst tr σ H Q) G' := ⟨fun z => (show tLst tr σ H Q from let k : tr σ H (kLst Q) := q.h z; k)⟩
instance rd_22 [q : Rd (Q (.int (i + j)) H) G'] : Rd1 (rAddI (.int i) (.int j) H Q) G' := ⟨fun z => (show rAddI (.int i) (.int j) H Q from let k : Q (.int (i + j)) H := q.h z; g_addI k)⟩
instance rd_23 [q : Rd (Q (.int (i - j)) H) G'] : Rd1 (rSubI (.int i) (.int j) H Q) G' := ⟨fun z => (show rSubI (.int i) (.int j) H Q from let k : Q (.int (i - j)) H := q.h z; g_subI k)⟩
instance rd_24 [q : Rd (Q (.bl (decide (i < j))) H) G'] : Rd1 (rLtI (.int i) (.int j) H Q) G' := ⟨fun z => (show rLtI (.int i) (.int j) H Q from let k : Q (.bl (decide (i < j))) H := q.h z; g_ltI k)⟩
instance rd_25 [q : Rd (Q (.bl (decide (i ≤ j))) H) G'] : Rd1 (rLeI (.int i) (.int j) H Q) G' := ⟨fun z => (show rLeI (.int i) (.int j) H Q from let k : Q (.bl (decide (i ≤ j))) H := q.h z; g_leI k)⟩
instance rd_26 [q : Rd (Q (.bl (decide (j < i))) H) G'] : Rd1 (rGtI (.int i) (.int j) H Q) G' := ⟨fun z => (show rGtI (.int i) (.int j) H Q from let k : Q (.bl (decide (j < i))) H := q.h z; g_gtI k)⟩
instance rd_27 [q : Rd (Q (.bl (decide (j ≤ i))) H) G'] : Rd1 (rGeI (.int i) (.int j) H Q) G' := ⟨fun z => (show rGeI (.int i) (.int j) H Q from let k : Q (.bl (decide (j ≤ i))) H := q.h z; g_geI k)⟩
instance rd_28 [q : Rd (Q (.bl (decide (i = j))) H) G'] : Rd1 (rEq (.int i) (.int j) H Q) G' := ⟨fun z => (show rEq (.int i) (.int j) H Q from let k : Q (.bl (decide (i = j))) H := q.h z; g_eqI k)⟩
instance rd_29 [q : Rd (Q (.bl (!decide (i = j))) H) G'] : Rd1 (rNe (.int i) (.int j) H Q) G' := ⟨fun z => (show rNe (.int i) (.int j) H Q from let k : Q (.bl (!decide (i = j))) H := q.h z; g_neI k)⟩
instance rd_30 [q : Rd (Q (.bl (b == c)) H) G'] : Rd1 (rEq (.bl b) (.bl c) H Q) G' := ⟨fun z => (show rEq (.bl b) (.bl c) H Q from let k : Q (.bl (b == c)) H := q.h z; g_eqB k)⟩
instance rd_31 [q : Rd (Q (.bl (b != c)) H) G'] : Rd1 (rNe (.bl b) (.bl c) H Q) G' := ⟨fun z => (show rNe (.bl b) (.bl c) H Q from let k : Q (.bl (b != c)) H := q.h z; g_neB k)⟩
instance rd_32 [q : Rd (Q (.bl false) H) G'] : Rd1 (rEq (.int i) .non H Q) G' := ⟨fun z => (show rEq (.int i) .non H Q from let k : Q (.bl false) H := q.h z; ⟨rfl, k⟩)⟩
instance rd_33 [q : Rd (Q (.bl true) H) G'] : Rd1 (rNe (.int i) .non H Q) G' := ⟨fun z => (show rNe (.int i) .non H Q from let k : Q (.bl true) H := q.h z; ⟨rfl, k⟩)⟩
instance rd_34 [q : Rd (Q (.bl false) H) G'] : Rd1 (rEq .non (.int i) H Q) G' := ⟨fun z => (show rEq .non (.int i) H Q from let k : Q (.bl false) H := q.h z; ⟨rfl, k⟩)⟩
instance rd_35 [q : Rd (Q (.bl true) H) G'] : Rd1 (rNe .non (.int i) H Q) G' := ⟨fun z => (show rNe .non (.int i) H Q from let k : Q (.bl true) H := q.h z; ⟨rfl, k⟩)⟩
instance rd_36 [q : Rd (Q (.bl true) H) G'] : Rd1 (rEq .non .non H Q) G' := ⟨fun z => (show rEq .non .non H Q from let k : Q (.bl true) H := q.h z; ⟨rfl, k⟩)⟩
instance rd_37 [q : Rd (Q (.bl false) H) G'] : Rd1 (rNe .non .non H Q) G' := ⟨fun z => (show rNe .non .non H Q from let k : Q (.bl false) H := q.h z; ⟨rfl, k⟩)⟩
instance rd_38 [q : Rd (Q (.bl true) H) G'] : Rd1 (rIsN .non .non H Q) G' := ⟨fun z => (show rIsN .non .non H Q from let k : Q (.bl true) H := q.h z; ⟨rfl, k⟩)⟩
instance rd_39 [q : Rd (Q (.bl false) H) G'] : Rd1 (rNotN .non .non H Q) G' := ⟨fun z => (show rNotN .non .non H Q from let k : Q (.bl false) H := q.h z; ⟨rfl, k⟩)⟩
instance rd_40 [q : Rd (Q (.bl false) H) G'] : Rd1 (rIsN (.int i) .non H Q) G' := ⟨fun z => (show rIsN (.int i) .non H Q from let k : Q (.bl false) H := q.h z; ⟨rfl, k⟩)⟩
instance rd_41 [q : Rd (Q (.bl true) H) G'] : Rd1 (rNotN (.int i) .non H Q) G' := ⟨fun z => (show rNotN (.int i) .non H Q from let k : Q (.bl true) H := q.h z; ⟨rfl, k⟩)⟩
instance rd_42 [q : Rd (Q (.bl false) H) G'] : Rd1 (rIsN (.ref p) .non H Q) G' := ⟨fun z => (show rIsN (.ref p) .non H Q from let k : Q (.bl false) H := q.h z; ⟨rfl, k⟩)⟩
instance rd_43 [q : Rd (Q (.bl true) H) G'] : Rd1 (rNotN (.ref p) .non H Q) G' := ⟨fun z => (show rNotN (.ref p) .non H Q from let k : Q (.bl true) H := q.h z; ⟨rfl, k⟩)⟩
instance rd_44 [q : Rd (Q (.bl (decide (b = c))) H) G'] : Rd1 (rIsBl (.bl b) (.bl c) H Q) G' := ⟨fun z => (show rIsBl (.bl b) (.bl c) H Q from let k : Q (.bl (decide (b = c))) H := q.h z; g_isBl k)⟩
instance rd_45 [q : Rd (Q (.int (if i < 0 then -i else i)) H) G'] : Rd1 (rAbs [.int i] H Q) G' := ⟨fun z => (show rAbs [.int i] H Q from let k : Q (.int (if i < 0 then -i else i)) H := q.h z; g_abs k)⟩
instance rd_46 [q : Rd (Q (.int i) H) G'] : Rd1 (rInt [.int i] H Q) G' := ⟨fun z => (show rInt [.int i] H Q from let k : Q (.int i) H := q.h z; g_int k)⟩
instance rd_47 [q : Rd (Q (.int (if b then 1 else 0)) H) G'] : Rd1 (rInt [.bl b] H Q) G' := ⟨fun z => (show rInt [.bl b] H Q from let k : Q (.int (if b then 1 else 0)) H := q.h z; g_intB k)⟩
instance rd_48 [q : Rd (Q (.int (if j < i then j else i)) H) G'] : Rd1 (rMin2 [.int i, .int j] H Q) G' := ⟨fun z => (show rMin2 [.int i, .int j] H Q from let k : Q (.int (if j < i then j else i)) H := q.h z; ⟨i, j, rfl, k⟩)⟩
instance rd_49 [q : Rd (Q (.int (if j > i then j else i)) H) G'] : Rd1 (rMax2 [.int i, .int j] H Q) G' := ⟨fun z => (show rMax2 [.int i, .int j] H Q from let k : Q (.int (if j > i then j else i)) H := q.h z; ⟨i, j, rfl, k⟩)⟩
instance rd_50 [q : Rd (ta σ H (kUn ru Q)) G'] : Rd1 (tUn ru ta σ H Q) G' := ⟨fun z => (show tUn ru ta σ H Q from let k : ta σ H (kUn ru Q) := q.h z; k)⟩
instance rd_51 [q : Rd (ru x H Q) G'] : Rd1 (kUn ru Q x H) G' := ⟨fun z => (show kUn ru Q x H from let k : ru x H Q := q.h z; k)⟩
instance rd_52 [q : Rd (Q (.int (-i)) H) G'] : Rd1 (rNegI (.int i) H Q) G' := ⟨fun z => (show rNegI (.int i) H Q from let k : Q (.int (-i)) H := q.h z; ⟨i, rfl, k⟩)⟩
instance rd_53 [q : Rd (Q (.int (i + j)) H) G'] : Rd1 (rAdd (.int i) (.int j) H Q) G' := ⟨fun z => (show rAdd (.int i) (.int j) H Q from let k : Q (.int (i + j)) H := q.h z; g_rAdd k)⟩
instance rd_54 [q : Rd (Q (.int (i - j)) H) G'] : Rd1 (rSub (.int i) (.int j) H Q) G' := ⟨fun z => (show rSub (.int i) (.int j) H Q from let k : Q (.int (i - j)) H := q.h z; g_rSub k)⟩
instance rd_55 [q : Rd (ta σ H (kAndV tb σ Q)) G'] : Rd1 (tAndV ta tb σ H Q) G' := ⟨fun z => (show tAndV ta tb σ H Q from let k : ta σ H (kAndV tb σ Q) := q.h z; k)⟩
instance rd_56 [q : Rd (ta σ H (kOrV tb σ Q)) G'] : Rd1 (tOrV ta tb σ H Q) G' := ⟨fun z => (show tOrV ta tb σ H Q from let k : ta σ H (kOrV tb σ Q) := q.h z; k)⟩
instance rd_57 [q : Rd (ta σ H (kNotV Q)) G'] : Rd1 (tNotV ta σ H Q) G' := ⟨fun z => (show tNotV ta σ H Q from let k : ta σ H (kNotV Q) := q.h z; k)⟩
instance rd_58 [q : Rd (Q (.bl (!b)) H) G'] : Rd1 (kNotV Q (.bl b) H) G' := ⟨fun z => (show kNotV Q (.bl b) H from let k : Q (.bl (!b)) H := q.h z; g_notV1 k)⟩
instance rd_59 [q : Rd (tb σ H Q) G'] : Rd1 (kAndV tb σ Q (.bl true) H) G' := ⟨fun z => (show kAndV tb σ Q (.bl true) H from let k : tb σ H Q := q.h z; g_andV1 (fun _ => k) (fun z => nomatch z))⟩
instance rd_60 [q : Rd (Q (.bl false) H) G'] : Rd1 (kAndV tb σ Q (.bl false) H) G' := ⟨fun z => (show kAndV tb σ Q (.bl false) H from let k : Q (.bl false) H := q.h z; g_andV1 (fun z => nomatch z) (fun _ => k))⟩
instance rd_61 [q : Rd (tb σ H Q) G'] : Rd1 (kOrV tb σ Q (.bl false) H) G' := ⟨fun z => (show kOrV tb σ Q (.bl false) H from let k : tb σ H Q := q.h z; g_orV1 (fun z => nomatch z) (fun _ => k))⟩
instance rd_62 [q : Rd (Q (.bl true) H) G'] : Rd1 (kOrV tb σ Q (.bl true) H) G' := ⟨fun z => (show kOrV tb σ Q (.bl true) H from let k : Q (.bl true) H := q.h z; g_orV1 (fun _ => k) (fun z => nomatch z))⟩
instance rd_63 [q : Rd (te σ H (kTest RB)) G'] : Rd1 (tTest te σ H RB) G' := ⟨fun z => (show tTest te σ H RB from let k : te σ H (kTest RB) := q.h z; k)⟩
instance rd_64 [q : Rd (te σ H (kTest RB)) G'] : Rd1 (tB te σ H RB) G' := ⟨fun z => (show tB te σ H RB from let k : te σ H (kTest RB) := q.h z; k)⟩
instance rd_65 [q : Rd (RB b H) G'] : Rd1 (kTest RB (.bl b) H) G' := ⟨fun z => (show kTest RB (.bl b) H from let k : RB b H := q.h z; g_test1 k)⟩
instance rd_66 [q : Rd (t σ H (kAnd u σ RB)) G'] : Rd1 (tAnd t u σ H RB) G' := ⟨fun z => (show tAnd t u σ H RB from let k : t σ H (kAnd u σ RB) := q.h z; k)⟩
instance rd_67 [q : Rd (t σ H (kOr u σ RB)) G'] : Rd1 (tOr t u σ H RB) G' := ⟨fun z => (show tOr t u σ H RB from let k : t σ H (kOr u σ RB) := q.h z; k)⟩
instance rd_68 [q : Rd (t σ H (kNot RB)) G'] : Rd1 (tNot t σ H RB) G' := ⟨fun z => (show tNot t σ H RB from let k : t σ H (kNot RB) := q.h z; k)⟩
instance rd_69 [q : Rd (RB (!b) H) G'] : Rd1 (kNot RB b H) G' := ⟨fun z => (show kNot RB b H from let k : RB (!b) H := q.h z; k)⟩
instance rd_70 [q : Rd (u σ H RB) G'] : Rd1 (kAnd u σ RB true H) G' := ⟨fun z => (show kAnd u σ RB true H from let k : u σ H RB := q.h z; g_and1 (fun _ => k) (fun z => nomatch z))⟩
instance rd_71 [q : Rd (RB false H) G'] : Rd1 (kAnd u σ RB false H) G' := ⟨fun z => (show kAnd u σ RB false H from let k : RB false H := q.h z; g_and1 (fun z => nomatch z) (fun _ => k))⟩
instance rd_72 [q : Rd (u σ H RB) G'] : Rd1 (kOr u σ RB false H) G' := ⟨fun z => (show kOr u σ RB false H from let k : u σ H RB := q.h z; g_or1 (fun z => nomatch z) (fun _ => k))⟩
instance rd_73 [q : Rd (RB true H) G'] : Rd1 (kOr u σ RB true H) G' := ⟨fun z => (show kOr u σ RB true H from let k : RB true H := q.h z; g_or1 (fun _ => k) (fun z => nomatch z))⟩
instance rd_74 [q : Rd (RB false H) G'] : Rd1 (kAnd u σ RB (!true) H) G' := ⟨fun z => (show kAnd u σ RB (!true) H from let k : RB false H := q.h z; g_and1 (fun z => nomatch z) (fun _ => k))⟩
instance rd_75 [q : Rd (u σ H RB) G'] : Rd1 (kAnd u σ RB (!false) H) G' := ⟨fun z => (show kAnd u σ RB (!false) H from let k : u σ H RB := q.h z; g_and1 (fun _ => k) (fun z => nomatch z))⟩
instance rd_76 [q : Rd (u σ H RB) G'] : Rd1 (kOr u σ RB (!true) H) G' := ⟨fun z => (show kOr u σ RB (!true) H from let k : u σ H RB := q.h z; g_or1 (fun z => nomatch z) (fun _ => k))⟩
instance rd_77 [q : Rd (RB true H) G'] : Rd1 (kOr u σ RB (!false) H) G' := ⟨fun z => (show kOr u σ RB (!false) H from let k : RB true H := q.h z; g_or1 (fun _ => k) (fun z => nomatch z))⟩
instance rd_78 [q : Rd (t σ H (kIf ta tb σ Q)) G'] : Rd1 (tIf t ta tb σ H Q) G' := ⟨fun z => (show tIf t ta tb σ H Q from let k : t σ H (kIf ta tb σ Q) := q.h z; k)⟩
instance rd_79 [q : Rd (ta σ H Q) G'] : Rd1 (kIf ta tb σ Q true H) G' := ⟨fun z => (show kIf ta tb σ Q true H from let k : ta σ H Q := q.h z; g_if1 (fun _ => k) (fun z => nomatch z))⟩
instance rd_80 [q : Rd (tb σ H Q) G'] : Rd1 (kIf ta tb σ Q false H) G' := ⟨fun z => (show kIf ta tb σ Q false H from let k : tb σ H Q := q.h z; g_if1 (fun z => nomatch z) (fun _ => k))⟩
instance rd_81 [q : Rd (tt ⟨uu ⟨a1, a2, a3, a4⟩, a2, a3, a4⟩ σ H) G'] : Rd1 (tSeq tt uu ⟨a1, a2, a3, a4⟩ σ H) G' := ⟨fun z => (show tSeq tt uu ⟨a1, a2, a3, a4⟩ σ H from let k : tt ⟨uu ⟨a1, a2, a3, a4⟩, a2, a3, a4⟩ σ H := q.h z; k)⟩
instance rd_82 [q : Rd (a1 σ H) G'] : Rd1 (tNext ⟨a1, a2, a3, a4⟩ σ H) G' := ⟨fun z => (show tNext ⟨a1, a2, a3, a4⟩ σ H from let k : a1 σ H := q.h z; k)⟩
instance rd_83 [q : Rd (a3 σ H) G'] : Rd1 (tBreak ⟨a1, a2, a3, a4⟩ σ H) G' := ⟨fun z => (show tBreak ⟨a1, a2, a3, a4⟩ σ H from let k : a3 σ H := q.h z; k)⟩
instance rd_84 [q : Rd (a4 σ H) G'] : Rd1 (tCont ⟨a1, a2, a3, a4⟩ σ H) G' := ⟨fun z => (show tCont ⟨a1, a2, a3, a4⟩ σ H from let k : a4 σ H := q.h z; k)⟩
instance rd_85 [q : Rd (te σ H (kSet n σ a1)) G'] : Rd1 (tAsg te (gName n) ⟨a1, a2, a3, a4⟩ σ H) G' := ⟨fun z => (show tAsg te (gName n) ⟨a1, a2, a3, a4⟩ σ H from let k : te σ H (kSet n σ a1) := q.h z; k)⟩
instance rd_86 [q : Rd (te σ H (kGt K n u1 σ a1)) G'] : Rd1 (tAsg te (gTup K n u1) ⟨a1, a2, a3, a4⟩ σ H) G' := ⟨fun z => (show tAsg te (gTup K n u1) ⟨a1, a2, a3, a4⟩ σ H from let k : te σ H (kGt K n u1 σ a1) := q.h z; k)⟩
instance rd_87 [q : Rd (gTup K n u1 x σ H P) G'] : Rd1 (kGt K n u1 σ P x H) G' := ⟨fun z => (show kGt K n u1 σ P x H from let k : gTup K n u1 x σ H P := q.h z; k)⟩
instance rd_88 [q : Rd (te σ H (kSu0 to ti rSetL σ a1)) G'] : Rd1 (tAsg te (gSub to ti rSetL) ⟨a1, a2, a3, a4⟩ σ H) G' := ⟨fun z => (show tAsg te (gSub to ti rSetL) ⟨a1, a2, a3, a4⟩ σ H from let k : te σ H (kSu0 to ti rSetL σ a1) := q.h z; k)⟩
instance rd_89 [q : Rd (to σ H (kSu1 v ti rs σ P)) G'] : Rd1 (kSu0 to ti rs σ P v H) G' := ⟨fun z => (show kSu0 to ti rs σ P v H from let k : to σ H (kSu1 v ti rs σ P) := q.h z; k)⟩
instance rd_90 [q : Rd (ti σ H (kSu2 v rs x σ P)) G'] : Rd1 (kSu1 v ti rs σ P x H) G' := ⟨fun z => (show kSu1 v ti rs σ P x H from let k : ti σ H (kSu2 v rs x σ P) := q.h z; k)⟩
instance rd_91 [q : Rd (te σ H (kDrop σ a1)) G'] : Rd1 (tDrop te ⟨a1, a2, a3, a4⟩ σ H) G' := ⟨fun z => (show tDrop te ⟨a1, a2, a3, a4⟩ σ H from let k : te σ H (kDrop σ a1) := q.h z; k)⟩
instance rd_92 [q : Rd (P σ H) G'] : Rd1 (kDrop σ P v H) G' := ⟨fun z => (show kDrop σ P v H from let k : P σ H := q.h z; k)⟩
instance rd_93 [q : Rd (te σ H a2) G'] : Rd1 (tRet te ⟨a1, a2, a3, a4⟩ σ H) G' := ⟨fun z => (show tRet te ⟨a1, a2, a3, a4⟩ σ H from let k : te σ H a2 := q.h z; k)⟩
instance rd_94 [q : Rd (a2 .non H) G'] : Rd1 (tRetN ⟨a1, a2, a3, a4⟩ σ H) G' := ⟨fun z => (show tRetN ⟨a1, a2, a3, a4⟩ σ H from let k : a2 .non H := q.h z; k)⟩
instance rd_95 [q : Rd (t σ H (kIfS tt uu D σ)) G'] : Rd1 (tIfS t tt uu D σ H) G' := ⟨fun z => (show tIfS t tt uu D σ H from let k : t σ H (kIfS tt uu D σ) := q.h z; k)⟩
instance rd_96 [q : Rd (tt D σ H) G'] : Rd1 (kIfS tt uu D σ true H) G' := ⟨fun z => (show kIfS tt uu D σ true H from let k : tt D σ H := q.h z; g_ifS1 (fun _ => k) (fun z => nomatch z))⟩
instance rd_97 [q : Rd (uu D σ H) G'] : Rd1 (kIfS tt uu D σ false H) G' := ⟨fun z => (show kIfS tt uu D σ false H from let k : uu D σ H := q.h z; g_ifS1 (fun z => nomatch z) (fun _ => k))⟩
instance rd_98 [q : Rd (tv σ H (kSt1 K ta f σ a1)) G'] : Rd1 (sFld K ta tv f ⟨a1, a2, a3, a4⟩ σ H) G' := ⟨fun z => (show sFld K ta tv f ⟨a1, a2, a3, a4⟩ σ H from let k : tv σ H (kSt1 K ta f σ a1) := q.h z; k)⟩
instance rd_99 [q : Rd (ta σ H (kSt2 K f y σ P)) G'] : Rd1 (kSt1 K ta f σ P y H) G' := ⟨fun z => (show kSt1 K ta f σ P y H from let k : ta σ H (kSt2 K f y σ P) := q.h z; k)⟩
instance rd_100 [q : Rd (ta σ H (kAu1 K tv rd f σ a1)) G'] : Rd1 (sFldAug K ta tv rd f ⟨a1, a2, a3, a4⟩ σ H) G' := ⟨fun z => (show sFldAug K ta tv rd f ⟨a1, a2, a3, a4⟩ σ H from let k : ta σ H (kAu1 K tv rd f σ a1) := q.h z; k)⟩
instance rd_101 [q : Rd (rd v y H (kAu3 K p C f σ P)) G'] : Rd1 (kAu2 K p C rd v f σ P y H) G' := ⟨fun z => (show kAu2 K p C rd v f σ P y H from let k : rd v y H (kAu3 K p C f σ P) := q.h z; k)⟩
instance rd_102 [q : Rd (kSet n σ P (.int (gi i j)) H) G'] : Rd1 (kLu2 n (.int i) (ipI gi) σ P (.int j) H) G' := ⟨fun z => (show kLu2 n (.int i) (ipI gi) σ P (.int j) H from let k : kSet n σ P (.int (gi i j)) H := q.h z; g_augA k)⟩
instance rd_103 [q : Rd (wi σ H (kFor g ts D σ)) G'] : Rd1 (tFor wi g ts D σ H) G' := ⟨fun z => (show tFor wi g ts D σ H from let k : wi σ H (kFor g ts D σ) := q.h z; k)⟩
instance rd_104 [q : Rd (wi σ H (kLc g t te ns σ Q)) G'] : Rd1 (tLc wi g t te ns σ H Q) G' := ⟨fun z => (show tLc wi g t te ns σ H Q from let k : wi σ H (kLc g t te ns σ Q) := q.h z; k)⟩
instance rd_105 [q : Rd (ta σ H (kListI K I0)) G'] : Rd1 (iList K ta σ H I0) G' := ⟨fun z => (show iList K ta σ H I0 from let k : ta σ H (kListI K I0) := q.h z; k)⟩
instance rd_106 [q : Rd (ta σ H (kTupI K I0)) G'] : Rd1 (iTup K ta σ H I0) G' := ⟨fun z => (show iTup K ta σ H I0 from let k : ta σ H (kTupI K I0) := q.h z; k)⟩
instance rd_107 [q : Rd (tr σ H (kRng1 I0)) G'] : Rd1 (iRng1 tr σ H I0) G' := ⟨fun z => (show iRng1 tr σ H I0 from let k : tr σ H (kRng1 I0) := q.h z; k)⟩
instance rd_108 [q : Rd (tr σ H (kRng2 I0)) G'] : Rd1 (iRng2 tr σ H I0) G' := ⟨fun z => (show iRng2 tr σ H I0 from let k : tr σ H (kRng2 I0) := q.h z; k)⟩
instance rd_109 [q : Rd (kSet n σ P x H) G'] : Rd1 (gName n x σ H P) G' := ⟨fun z => (show gName n x σ H P from let k : kSet n σ P x H := q.h z; k)⟩
instance rd_110 [q : Rd (t1 v σ H (kGc u1 xs P)) G'] : Rd1 (gCons t1 u1 (v :: xs) σ H P) G' := ⟨fun z => (show gCons t1 u1 (v :: xs) σ H P from let k : t1 v σ H (kGc u1 xs P) := q.h z; g_gcons k)⟩
instance rd_111 [q : Rd (u1 xs σ H P) G'] : Rd1 (kGc u1 xs P σ H) G' := ⟨fun z => (show kGc u1 xs P σ H from let k : u1 xs σ H P := q.h z; k)⟩
instance rd_112 [q : Rd (P σ H) G'] : Rd1 (gNil [] σ H P) G' := ⟨fun z => (show gNil [] σ H P from let k : P σ H := q.h z; g_gnil k)⟩
instance rd_113 [q : Rd (RB true H) G'] : Rd1 (tYes σ H RB) G' := ⟨fun z => (show tYes σ H RB from let k : RB true H := q.h z; k)⟩
instance rd_114 [q : Rd (te σ H Y) G'] : Rd1 (kCi te σ Y N true H) G' := ⟨fun z => (show kCi te σ Y N true H from let k : te σ H Y := q.h z; g_ciT k)⟩
instance rd_115 [q : Rd (N H) G'] : Rd1 (kCi te σ Y N false H) G' := ⟨fun z => (show kCi te σ Y N false H from let k : N H := q.h z; k)⟩
instance rd_116 [q : Rd (ta σ H (kSl1 rs3 tl th σ Q)) G'] : Rd1 (L2.tSl rs3 ta tl th σ H Q) G' := ⟨fun z => (show L2.tSl rs3 ta tl th σ H Q from let k : ta σ H (kSl1 rs3 tl th σ Q) := q.h z; k)⟩
instance rd_117 [q : Rd (tl σ H (kSl2 rs3 x th σ Q)) G'] : Rd1 (kSl1 rs3 tl th σ Q x H) G' := ⟨fun z => (show kSl1 rs3 tl th σ Q x H from let k : tl σ H (kSl2 rs3 x th σ Q) := q.h z; k)⟩
instance rd_118 [q : Rd (th σ H (kSl3 rs3 x lo Q)) G'] : Rd1 (kSl2 rs3 x th σ Q lo H) G' := ⟨fun z => (show kSl2 rs3 x th σ Q lo H from let k : th σ H (kSl3 rs3 x lo Q) := q.h z; k)⟩
instance rd_119 [q : Rd (rs3 x lo hi H Q) G'] : Rd1 (kSl3 rs3 x lo Q hi H) G' := ⟨fun z => (show kSl3 rs3 x lo Q hi H from let k : rs3 x lo hi H Q := q.h z; k)⟩
instance rd_120 [q : Rd (ta σ H (kSo RO)) G'] : Rd1 (tPart ta σ H RO) G' := ⟨fun z => (show tPart ta σ H RO from let k : ta σ H (kSo RO) := q.h z; k)⟩
instance rd_121 [q : Rd (RO (some i) H) G'] : Rd1 (kSo RO (.int i) H) G' := ⟨fun z => (show kSo RO (.int i) H from let k : RO (some i) H := q.h z; ⟨i, rfl, k⟩)⟩
instance rd_122 [q : Rd (RO none H) G'] : Rd1 (tNoPart σ H RO) G' := ⟨fun z => (show tNoPart σ H RO from let k : RO none H := q.h z; k)⟩
variable {s0 s1 s2 s3 s4 s5 s6 s7 s8 s9 s10 s11 s12 s13 s14 s15 s16 s17 s18 s19 s20 s21 s22 s23 : Option V} {ss : St}
instance rd_v0 [q : Rd (Q v H) G'] : Rd1 (tVar 0 (some v :: ss) H Q) G' := ⟨fun z => g_var (by rfl) (q.h z)⟩
instance rd_s0 [q : Rd (P (some v :: ss) H) G'] : Rd1 (kSet 0 (s0 :: ss) P v H) G' := ⟨fun z => q.h z⟩
instance rd_a0 [q : Rd (te (some x :: ss) H (kLu2 0 x rd (some x :: ss) a1)) G'] : Rd1 (tAug 0 te rd ⟨a1, a2, a3, a4⟩ (some x :: ss) H) G' := ⟨fun z => ⟨x, by rfl, q.h z⟩⟩
instance rd_v1 [q : Rd (Q v H) G'] : Rd1 (tVar 1 (s0 :: some v :: ss) H Q) G' := ⟨fun z => g_var (by rfl) (q.h z)⟩
instance rd_s1 [q : Rd (P (s0 :: some v :: ss) H) G'] : Rd1 (kSet 1 (s0 :: s1 :: ss) P v H) G' := ⟨fun z => q.h z⟩
instance rd_a1 [q : Rd (te (s0 :: some x :: ss) H (kLu2 1 x rd (s0 :: some x :: ss) a1)) G'] : Rd1 (tAug 1 te rd ⟨a1, a2, a3, a4⟩ (s0 :: some x :: ss) H) G' := ⟨fun z => ⟨x, by rfl, q.h z⟩⟩
instance rd_v2 [q : Rd (Q v H) G'] : Rd1 (tVar 2 (s0 :: s1 :: some v :: ss) H Q) G' := ⟨fun z => g_var (by rfl) (q.h z)⟩
instance rd_s2 [q : Rd (P (s0 :: s1 :: some v :: ss) H) G'] : Rd1 (kSet 2 (s0 :: s1 :: s2 :: ss) P v H) G' := ⟨fun z => q.h z⟩
instance rd_a2 [q : Rd (te (s0 :: s1 :: some x :: ss) H (kLu2 2 x rd (s0 :: s1 :: some x :: ss) a1)) G'] : Rd1 (tAug 2 te rd ⟨a1, a2, a3, a4⟩ (s0 :: s1 :: some x :: ss) H) G' := ⟨fun z => ⟨x, by rfl, q.h z⟩⟩
instance rd_v3 [q : Rd (Q v H) G'] : Rd1 (tVar 3 (s0 :: s1 :: s2 :: some v :: ss) H Q) G' := ⟨fun z => g_var (by rfl) (q.h z)⟩
instance rd_s3 [q : Rd (P (s0 :: s1 :: s2 :: some v :: ss) H) G'] : Rd1 (kSet 3 (s0 :: s1 :: s2 :: s3 :: ss) P v H) G' := ⟨fun z => q.h z⟩
instance rd_a3 [q : Rd (te (s0 :: s1 :: s2 :: some x :: ss) H (kLu2 3 x rd (s0 :: s1 :: s2 :: some x :: ss) a1)) G'] : Rd1 (tAug 3 te rd ⟨a1, a2, a3, a4⟩ (s0 :: s1 :: s2 :: some x :: ss) H) G' := ⟨fun z => ⟨x, by rfl, q.h z⟩⟩
instance rd_v4 [q : Rd (Q v H) G'] : Rd1 (tVar 4 (s0 :: s1 :: s2 :: s3 :: some v :: ss) H Q) G' := ⟨fun z => g_var (by rfl) (q.h z)⟩
instance rd_s4 [q : Rd (P (s0 :: s1 :: s2 :: s3 :: some v :: ss) H) G'] : Rd1 (kSet 4 (s0 :: s1 :: s2 :: s3 :: s4 :: ss) P v H) G' := ⟨fun z => q.h z⟩
instance rd_a4 [q : Rd (te (s0 :: s1 :: s2 :: s3 :: some x :: ss) H (kLu2 4 x rd (s0 :: s1 :: s2 :: s3 :: some x :: ss) a1)) G'] : Rd1 (tAug 4 te rd ⟨a1, a2, a3, a4⟩ (s0 :: s1 :: s2 :: s3 :: some x :: ss) H) G' := ⟨fun z => ⟨x, by rfl, q.h z⟩⟩
instance rd_v5 [q : Rd (Q v H) G'] : Rd1 (tVar 5 (s0 :: s1 :: s2 :: s3 :: s4 :: some v :: ss) H Q) G' := ⟨fun z => g_var (by rfl) (q.h z)⟩
instance rd_s5 [q : Rd (P (s0 :: s1 :: s2 :: s3 :: s4 :: some v :: ss) H) G'] : Rd1 (kSet 5 (s0 :: s1 :: s2 :: s3 :: s4 :: s5 :: ss) P v H) G' := ⟨fun z => q.h z⟩
instance rd_a5 [q : Rd (te (s0 :: s1 :: s2 :: s3 :: s4 :: some x :: ss) H (kLu2 5 x rd (s0 :: s1 :: s2 :: s3 :: s4 :: some x :: ss) a1)) G'] : Rd1 (tAug 5 te rd ⟨a1, a2, a3, a4⟩ (s0 :: s1 :: s2 :: s3 :: s4 :: some x :: ss) H) G' := ⟨fun z => ⟨x, by rfl, q.h z⟩⟩
instance rd_v6 [q : Rd (Q v H) G'] : Rd1 (tVar 6 (s0 :: s1 :: s2 :: s3 :: s4 :: s5 :: some v :: ss) H Q) G' := ⟨fun z => g_var (by rfl) (q.h z)⟩
instance rd_s6 [q : Rd (P (s0 :: s1 :: s2 :: s3 :: s4 :: s5 :: some v :: ss) H) G'] : Rd1 (kSet 6 (s0 :: s1 :: s2 :: s3 :: s4 :: s5 :: s6 :: ss) P v H) G' := ⟨fun z => q.h z⟩
instance rd_a6 [q : Rd (te (s0 :: s1 :: s2 :: s3 :: s4 :: s5 :: some x :: ss) H (kLu2 6 x rd (s0 :: s1 :: s2 :: s3 :: s4 :: s5 :: some x :: ss) a1)) G'] : Rd1 (tAug 6 te rd ⟨a1, a2, a3, a4⟩ (s0 :: s1 :: s2 :: s3 :: s4 :: s5 :: some x :: ss) H) G' := ⟨fun z => ⟨x, by rfl, q.h z⟩⟩
instance rd_v7 [q : Rd (Q v H) G'] : Rd1 (tVar 7 (s0 :: s1 :: s2 :: s3 :: s4 :: s5 :: s6 :: some v :: ss) H Q) G' := ⟨fun z => g_var (by rfl) (q.h z)⟩
instance rd_s7 [q : Rd (P (s0 :: s1 :: s2 :: s3 :: s4 :: s5 :: s6 :: some v :: ss) H) G'] : Rd1 (kSet 7 (s0 :: s1 :: s2 :: s3 :: s4 :: s5 :: s6 :: s7 :: ss) P v H) G' := ⟨fun z => q.h z⟩
instance rd_a7 [q : Rd (te (s0 :: s1 :: s2 :: s3 :: s4 :: s5 :: s6 :: some x :: ss) H (kLu2 7 x rd (s0 :: s1 :: s2 :: s3 :: s4 :: s5 :: s6 :: some x :: ss) a1)) G'] : Rd1 (tAug 7 te rd ⟨a1, a2, a3, a4⟩ (s0 :: s1 :: s2 :: s3 :: s4 :: s5 :: s6 :: some x :: ss) H) G' := ⟨fun z => ⟨x, by rfl, q.h z⟩⟩
instance rd_v8 [q : Rd (Q v H) G'] : Rd1 (tVar 8 (s0 :: s1 :: s2 :: s3 :: s4 :: s5 :: s6 :: s7 :: some v :: ss) H Q) G' := ⟨fun z => g_var (by rfl) (q.h z)⟩
instance rd_s8 [q : Rd (P (s0 :: s1 :: s2 :: s3 :: s4 :: s5 :: s6 :: s7 :: some v :: ss) H) G'] : Rd1 (kSet 8 (s0 :: s1 :: s2 :: s3 :: s4 :: s5 :: s6 :: s7 :: s8 :: ss) P v H) G' := ⟨fun z => q.h z⟩
instance rd_a8 [q : Rd (te (s0 :: s1 :: s2 :: s3 :: s4 :: s5 :: s6 :: s7 :: some x :: ss) H (kLu2 8 x rd (s0 :: s1 :: s2 :: s3 :: s4 :: s5 :: s6 :: s7 :: some x :: ss) a1)) G'] : Rd1 (tAug 8 te rd ⟨a1, a2, a3, a4⟩ (s0 :: s1 :: s2 :: s3 :: s4 :: s5 :: s6 :: s7 :: some x :: ss) H) G' := ⟨fun z => ⟨x, by rfl, q.h z⟩⟩
instance rd_v9 [q : Rd (Q v H) G'] : Rd1 (tVar 9 (s0 :: s1 :: s2 :: s3 :: s4 :: s5 :: s6 :: s7 :: s8 :: some v :: ss) H Q) G' := ⟨fun z => g_var (by rfl) (q.h z)⟩
instance rd_s9 [q : Rd (P (s0 :: s1 :: s2 :: s3 :: s4 :: s5 :: s6 :: s7 :: s8 :: some v :: ss) H) G'] : Rd1 (kSet 9 (s0 :: s1 :: s2 :: s3 :: s4 :: s5 :: s6 :: s7 :: s8 :: s9 :: ss) P v H) G' := ⟨fun z => q.h z⟩
instance rd_a9 [q : Rd (te (s0 :: s1 :: s2 :: s3 :: s4 :: s5 :: s6 :: s7 :: s8 :: some x :: ss) H (kLu2 9 x rd (s0 :: s1 :: s2 :: s3 :: s4 :: s5 :: s6 :: s7 :: s8 :: some x :: ss) a1)) G'] : Rd1 (tAug 9 te rd ⟨a1, a2, a3, a4⟩ (s0 :: s1 :: s2 :: s3 :: s4 :: s5 :: s6 :: s7 :: s8 :: some x :: ss) H) G' := ⟨fun z => ⟨x, by rfl, q.h z⟩⟩
instance rd_v10 [q : Rd (Q v H) G'] : Rd1 (tVar 10 (s0 :: s1 :: s2 :: s3 :: s4 :: s5 :: s6 :: s7 :: s8 :: s9 :: some v :: ss) H Q) G' := ⟨fun z => g_var (by rfl) (q.h z)⟩
instance rd_s10 [q : Rd (P (s0 :: s1 :: s2 :: s3 :: s4 :: s5 :: s6 :: s7 :: s8 :: s9 :: some v :: ss) H) G'] : Rd1 (kSet 10 (s0 :: s1 :: s2 :: s3 :: s4 :: s5 :: s6 :: s7 :: s8 :: s9 :: s10 :: ss) P v H) G' := ⟨fun z => q.h z⟩
instance rd_a10 [q : Rd (te (s0 :: s1 :: s2 :: s3 :: s4 :: s5 :: s6 :: s7 :: s8 :: s9 :: some x :: ss) H (kLu2 10 x rd (s0 :: s1 :: s2 :: s3 :: s4 :: s5 :: s6 :: s7 :: s8 :: s9 :: some x :: ss) a1)) G'] : Rd1 (tAug 10 te rd ⟨a1, a2, a3, a4⟩ (s0 :: s1 :: s2 :: s3 :: s4 :: s5 :: s6 :: s7 :: s8 :: s9 :: some x :: ss) H) G' := ⟨fun z => ⟨x, by rfl, q.h z⟩⟩
instance rd_v11 [q : Rd (Q v H) G'] : Rd1 (tVar 11 (s0 :: s1 :: s2 :: s3 :: s4 :: s5 :: s6 :: s7 :: s8 :: s9 :: s10 :: some v :: ss) H Q) G' := ⟨fun z => g_var (by rfl) (q.h z)⟩
instance rd_s11 [q : Rd (P (s0 :: s1 :: s2 :: s3 :: s4 :: s5 :: s6 :: s7 :: s8 :: s9 :: s10 :: some v :: ss) H) G'] : Rd1 (kSet 11 (s0 :: s1 :: s2 :: s3 :: s4 :: s5 :: s6 :: s7 :: s8 :: s9 :: s10 :: s11 :: ss) P v H) G' := ⟨fun z => q.h z⟩
instance rd_a11 [q : Rd (te (s0 :: s1 :: s2 :: s3 :: s4 :: s5 :: s6 :: s7 :: s8 :: s9 :: s10 :: some x :: ss) H (kLu2 11 x rd (s0 :: s1 :: s2 :: s3 :: s4 :: s5 :: s6 :: s7 :: s8 :: s9 :: s10 :: some x :: ss) a1)) G'] : Rd1 (tAug 11 te rd ⟨a1, a2, a3, a4⟩ (s0 :: s1 :: s2 :: s3 :: s4 :: s5 :: s6 :: s7 :: s8 :: s9 :: s10 :: some x :: ss) H) G' := ⟨fun z => ⟨x, by rfl, q.h z⟩⟩
instance rd_v12 [q : Rd (Q v H) G'] : Rd1 (tVar 12 (s0 :: s1 :: s2 :: s3 :: s4 :: s5 :: s6 :: s7 :: s8 :: s9 :: s10 :: s11 :: some v :: ss) H Q) G' := ⟨fun z => g_var (by rfl) (q.h z)⟩
instance rd_s12 [q : Rd (P (s0 :: s1 :: s2 :: s3 :: s4 :: s5 :: s6 :: s7 :: s8 :: s9 :: s10 :: s11 :: some v :: ss) H) G'] : Rd1 (kSet 12 (s0 :: s1 :: s2 :: s3 :: s4 :: s5 :: s6 :: s7 :: s8 :: s9 :: s10 :: s11 :: s12 :: ss) P v H) G' := ⟨fun z => q.h z⟩
instance rd_a12 [q : Rd (te (s0 :: s1 :: s2 :: s3 :: s4 :: s5 :: s6 :: s7 :: s8 :: s9 :: s10 :: s11 :: some x :: ss) H (kLu2 12 x rd (s0 :: s1 :: s2 :: s3 :: s4 :: s5 :: s6 :: s7 :: s8 :: s9 :: s10 :: s11 :: some x :: ss) a1)) G'] : Rd1 (tAug 12 te rd ⟨a1, a2, a3, a4⟩ (s0 :: s1 :: s2 :: s3 :: s4 :: s5 :: s6 :: s7 :: s8 :: s9 :: s10 :: s11 :: some x :: ss) H) G' := ⟨fun z => ⟨x, by rfl, q.h z⟩⟩
instance rd_v13 [q : Rd (Q v H) G'] : Rd1 (tVar 13 (s0 :: s1 :: s2 :: s3 :: s4 :: s5 :: s6 :: s7 :: s8 :: s9 :: s10 :: s11 :: s12 :: some v :: ss) H Q) G' := ⟨fun z => g_var (by rfl) (q.h z)⟩
instance rd_s13 [q : Rd (P (s0 :: s1 :: s2 :: s3 :: s4 :: s5 :: s6 :: s7 :: s8 :: s9 :: s10 :: s11 :: s12 :: some v :: ss) H) G'] : Rd1 (kSet 13 (s0 :: s1 :: s2 :: s3 :: s4 :: s5 :: s6 :: s7 :: s8 :: s9 :: s10 :: s11 :: s12 :: s13 :: ss) P v H) G' := ⟨fun z => q.h z⟩
instance rd_a13 [q : Rd (te (s0 :: s1 :: s2 :: s3 :: s4 :: s5 :: s6 :: s7 :: s8 :: s9 :: s10 :: s11 :: s12 :: some x :: ss) H (kLu2 13 x rd (s0 :: s1 :: s2 :: s3 :: s4 :: s5 :: s6 :: s7 :: s8 :: s9 :: s10 :: s11 :: s12 :: some x :: ss) a1)) G'] : Rd1 (tAug 13 te rd ⟨a1, a2, a3, a4⟩ (s0 :: s1 :: s2 :: s3 :: s4 :: s5 :: s6 :: s7 :: s8 :: s9 :: s10 :: s11 :: s12 :: some x :: ss) H) G' := ⟨fun z => ⟨x, by rfl, q.h z⟩⟩
instance rd_v14 [q : Rd (Q v H) G'] : Rd1 (tVar 14 (s0 :: s1 :: s2 :: s3 :: s4 :: s5 :: s6 :: s7 :: s8 :: s9 :: s10 :: s11 :: s12 :: s13 :: some v :: ss) H Q) G' := ⟨fun z => g_var (by rfl) (q.h z)⟩
instance rd_s14 [q : Rd (P (s0 :: s1 :: s2 :: s3 :: s4 :: s5 :: s6 :: s7 :: s8 :: s9 :: s10 :: s11 :: s12 :: s13 :: some v :: ss) H) G'] : Rd1 (kSet 14 (s0 :: s1 :: s2 :: s3 :: s4 :: s5 :: s6 :: s7 :: s8 :: s9 :: s10 :: s11 :: s12 :: s13 :: s14 :: ss) P v H) G' := ⟨fun z => q.h z⟩
instance rd_a14 [q : Rd (te (s0 :: s1 :: s2 :: s3 :: s4 :: s5 :: s6 :: s7 :: s8 :: s9 :: s10 :: s11 :: s12 :: s13 :: some x :: ss) H (kLu2 14 x rd (s0 :: s1 :: s2 :: s3 :: s4 :: s5 :: s6 :: s7 :: s8 :: s9 :: s10 :: s11 :: s12 :: s13 :: some x :: ss) a1)) G'] : Rd1 (tAug 14 te rd ⟨a1, a2, a3, a4⟩ (s0 :: s1 :: s2 :: s3 :: s4 :: s5 :: s6 :: s7 :: s8 :: s9 :: s10 :: s11 :: s12 :: s13 :: some x :: ss) H) G' := ⟨fun z => ⟨x, by rfl, q.h z⟩⟩
instance rd_v15 [q : Rd (Q v H) G'] : Rd1 (tVar 15 (s0 :: s1 :: s2 :: s3 :: s4 :: s5 :: s6 :: s7 :: s8 :: s9 :: s10 :: s11 :: s12 :: s13 :: s14 :: some v :: ss) H Q) G' := ⟨fun z => g_var (by rfl) (q.h z)⟩
instance rd_s15 [q : Rd (P (s0 :: s1 :: s2 :: s3 :: s4 :: s5 :: s6 :: s7 :: s8 :: s9 :: s10 :: s11 :: s12 :: s13 :: s14 :: some v :: ss) H) G'] : Rd1 (kSet 15 (s0 :: s1 :: s2 :: s3 :: s4 :: s5 :: s6 :: s7 :: s8 :: s9 :: s10 :: s11 :: s12 :: s13 :: s14 :: s15 :: ss) P v H) G' := ⟨fun z => q.h z⟩
instance rd_a15 [q : Rd (te (s0 :: s1 :: s2 :: s3 :: s4 :: s5 :: s6 :: s7 :: s8 :: s9 :: s10 :: s11 :: s12 :: s13 :: s14 :: some x :: ss) H (kLu2 15 x rd (s0 :: s1 :: s2 :: s3 :: s4 :: s5 :: s6 :: s7 :: s8 :: s9 :: s10 :: s11 :: s12 :: s13 :: s14 :: some x :: ss) a1)) G'] : Rd1 (tAug 15 te rd ⟨a1, a2, a3, a4⟩ (s0 :: s1 :: s2 :: s3 :: s4 :: s5 :: s6 :: s7 :: s8 :: s9 :: s10 :: s11 :: s12 :: s13 :: s14 :: some x :: ss) H) G' := ⟨fun z => ⟨x, by rfl, q.h z⟩⟩
instance rd_v16 [q : Rd (Q v H) G'] : Rd1 (tVar 16 (s0 :: s1 :: s2 :: s3 :: s4 :: s5 :: s6 :: s7 :: s8 :: s9 :: s10 :: s11 :: s12 :: s13 :: s14 :: s15 :: some v :: ss) H Q) G' := ⟨fun z => g_var (by rfl) (q.h z)⟩
instance rd_s16 [q : Rd (P (s0 :: s1 :: s2 :: s3 :: s4 :: s5 :: s6 :: s7 :: s8 :: s9 :: s10 :: s11 :: s12 :: s13 :: s14 :: s15 :: some v :: ss) H) G'] : Rd1 (kSet 16 (s0 :: s1 :: s2 :: s3 :: s4 :: s5 :: s6 :: s7 :: s8 :: s9 :: s10 :: s11 :: s12 :: s13 :: s14 :: s15 :: s16 :: ss) P v H) G' := ⟨fun z => q.h z⟩
instance rd_a16 [q : Rd (te (s0 :: s1 :: s2 :: s3 :: s4 :: s5 :: s6 :: s7 :: s8 :: s9 :: s10 :: s11 :: s12 :: s13 :: s14 :: s15 :: some x :: ss) H (kLu2 16 x rd (s0 :: s1 :: s2 :: s3 :: s4 :: s5 :: s6 :: s7 :: s8 :: s9 :: s10 :: s11 :: s12 :: s13 :: s14 :: s15 :: some x :: ss) a1)) G'] : Rd1 (tAug 16 te rd ⟨a1, a2, a3, a4⟩ (s0 :: s1 :: s2 :: s3 :: s4 :: s5 :: s6 :: s7 :: s8 :: s9 :: s10 :: s11 :: s12 :: s13 :: s14 :: s15 :: some x :: ss) H) G' := ⟨fun z => ⟨x, by rfl, q.h z⟩⟩
instance rd_v17 [q : Rd (Q v H) G'] : Rd1 (tVar 17 (s0 :: s1 :: s2 :: s3 :: s4 :: s5 :: s6 :: s7 :: s8 :: s9 :: s10 :: s11 :: s12 :: s13 :: s14 :: s15 :: s16 :: some v :: ss) H Q) G' := ⟨fun z => g_var (by rfl) (q.h z)⟩
instance rd_s17 [q : Rd (P (s0 :: s1 :: s2 :: s3 :: s4 :: s5 :: s6 :: s7 :: s8 :: s9 :: s10 :: s11 :: s12 :: s13 :: s14 :: s15 :: s16 :: some v :: ss) H) G'] : Rd1 (kSet 17 (s0 :: s1 :: s2 :: s3 :: s4 :: s5 :: s6 :: s7 :: s8 :: s9 :: s10 :: s11 :: s12 :: s13 :: s14 :: s15 :: s16 :: s17 :: ss) P v H) G' := ⟨fun z => q.h z⟩
instance rd_a17 [q : Rd (te (s0 :: s1 :: s2 :: s3 :: s4 :: s5 :: s6 :: s7 :: s8 :: s9 :: s10 :: s11 :: s12 :: s13 :: s14 :: s15 :: s16 :: some x :: ss) H (kLu2 17 x rd (s0 :: s1 :: s2 :: s3 :: s4 :: s5 :: s6 :: s7 :: s8 :: s9 :: s10 :: s11 :: s12 :: s13 :: s14 :: s15 :: s16 :: some x :: ss) a1)) G'] : Rd1 (tAug 17 te rd ⟨a1, a2, a3, a4⟩ (s0 :: s1 :: s2 :: s3 :: s4 :: s5 :: s6 :: s7 :: s8 :: s9 :: s10 :: s11 :: s12 :: s13 :: s14 :: s15 :: s16 :: some x :: ss) H) G' := ⟨fun z => ⟨x, by rfl, q.h z⟩⟩
instance rd_v18 [q : Rd (Q v H) G'] : Rd1 (tVar 18 (s0 :: s1 :: s2 :: s3 :: s4 :: s5 :: s6 :: s7 :: s8 :: s9 :: s10 :: s11 :: s12 :: s13 :: s14 :: s15 :: s16 :: s17 :: some v :: ss) H Q) G' := ⟨fun z => g_var (by rfl) (q.h z)⟩
instance rd_s18 [q : Rd (P (s0 :: s1 :: s2 :: s3 :: s4 :: s5 :: s6 :: s7 :: s8 :: s9 :: s10 :: s11 :: s12 :: s13 :: s14 :: s15 :: s16 :: s17 :: some v :: ss) H) G'] : Rd1 (kSet 18 (s0 :: s1 :: s2 :: s3 :: s4 :: s5 :: s6 :: s7 :: s8 :: s9 :: s10 :: s11 :: s12 :: s13 :: s14 :: s15 :: s16 :: s17 :: s18 :: ss) P v H) G' := ⟨fun z => q.h z⟩
instance rd_a18 [q : Rd (te (s0 :: s1 :: s2 :: s3 :: s4 :: s5 :: s6 :: s7 :: s8 :: s9 :: s10 :: s11 :: s12 :: s13 :: s14 :: s15 :: s16 :: s17 :: some x :: ss) H (kLu2 18 x rd (s0 :: s1 :: s2 :: s3 :: s4 :: s5 :: s6 :: s7 :: s8 :: s9 :: s10 :: s11 :: s12 :: s13 :: s14 :: s15 :: s16 :: s17 :: some x :: ss) a1)) G'] : Rd1 (tAug 18 te rd ⟨a1, a2, a3, a4⟩ (s0 :: s1 :: s2 :: s3 :: s4 :: s5 :: s6 :: s7 :: s8 :: s9 :: s10 :: s11 :: s12 :: s13 :: s14 :: s15 :: s16 :: s17 :: some x :: ss) H) G' := ⟨fun z => ⟨x, by rfl, q.h z⟩⟩
instance rd_v19 [q : Rd (Q v H) G'] : Rd1 (tVar 19 (s0 :: s1 :: s2 :: s3 :: s4 :: s5 :: s6 :: s7 :: s8 :: s9 :: s10 :: s11 :: s12 :: s13 :: s14 :: s15 :: s16 :: s17 :: s18 :: some v :: ss) H Q) G' := ⟨fun z => g_var (by rfl) (q.h z)⟩
instance rd_s19 [q : Rd (P (s0 :: s1 :: s2 :: s3 :: s4 :: s5 :: s6 :: s7 :: s8 :: s9 :: s10 :: s11 :: s12 :: s13 :: s14 :: s15 :: s16 :: s17 :: s18 :: some v :: ss) H) G'] : Rd1 (kSet 19 (s0 :: s1 :: s2 :: s3 :: s4 :: s5 :: s6 :: s7 :: s8 :: s9 :: s10 :: s11 :: s12 :: s13 :: s14 :: s15 :: s16 :: s17 :: s18 :: s19 :: ss) P v H) G' := ⟨fun z => q.h z⟩
instance rd_a19 [q : Rd (te (s0 :: s1 :: s2 :: s3 :: s4 :: s5 :: s6 :: s7 :: s8 :: s9 :: s10 :: s11 :: s12 :: s13 :: s14 :: s15 :: s16 :: s17 :: s18 :: some x :: ss) H (kLu2 19 x rd (s0 :: s1 :: s2 :: s3 :: s4 :: s5 :: s6 :: s7 :: s8 :: s9 :: s10 :: s11 :: s12 :: s13 :: s14 :: s15 :: s16 :: s17 :: s18 :: some x :: ss) a1)) G'] : Rd1 (tAug 19 te rd ⟨a1, a2, a3, a4⟩ (s0 :: s1 :: s2 :: s3 :: s4 :: s5 :: s6 :: s7 :: s8 :: s9 :: s10 :: s11 :: s12 :: s13 :: s14 :: s15 :: s16 :: s17 :: s18 :: some x :: ss) H) G' := ⟨fun z => ⟨x, by rfl, q.h z⟩⟩
instance rd_v20 [q : Rd (Q v H) G'] : Rd1 (tVar 20 (s0 :: s1 :: s2 :: s3 :: s4 :: s5 :: s6 :: s7 :: s8 :: s9 :: s10 :: s11 :: s12 :: s13 :: s14 :: s15 :: s16 :: s17 :: s18 :: s19 :: some v :: ss) H Q) G' := ⟨fun z => g_var (by rfl) (q.h z)⟩
instance rd_s20 [q : Rd (P (s0 :: s1 :: s2 :: s3 :: s4 :: s5 :: s6 :: s7 :: s8 :: s9 :: s10 :: s11 :: s12 :: s13 :: s14 :: s15 :: s16 :: s17 :: s18 :: s19 :: some v :: ss) H) G'] : Rd1 (kSet 20 (s0 :: s1 :: s2 :: s3 :: s4 :: s5 :: s6 :: s7 :: s8 :: s9 :: s10 :: s11 :: s12 :: s13 :: s14 :: s15 :: s16 :: s17 :: s18 :: s19 :: s20 :: ss) P v H) G' := ⟨fun z => q.h z⟩
instance rd_a20 [q : Rd (te (s0 :: s1 :: s2 :: s3 :: s4 :: s5 :: s6 :: s7 :: s8 :: s9 :: s10 :: s11 :: s12 :: s13 :: s14 :: s15 :: s16 :: s17 :: s18 :: s19 :: some x :: ss) H (kLu2 20 x rd (s0 :: s1 :: s2 :: s3 :: s4 :: s5 :: s6 :: s7 :: s8 :: s9 :: s10 :: s11 :: s12 :: s13 :: s14 :: s15 :: s16 :: s17 :: s18 :: s19 :: some x :: ss) a1)) G'] : Rd1 (tAug 20 te rd ⟨a1, a2, a3, a4⟩ (s0 :: s1 :: s2 :: s3 :: s4 :: s5 :: s6 :: s7 :: s8 :: s9 :: s10 :: s11 :: s12 :: s13 :: s14 :: s15 :: s16 :: s17 :: s18 :: s19 :: some x :: ss) H) G' := ⟨fun z => ⟨x, by rfl, q.h z⟩⟩
instance rd_v21 [q : Rd (Q v H) G'] : Rd1 (tVar 21 (s0 :: s1 :: s2 :: s3 :: s4 :: s5 :: s6 :: s7 :: s8 :: s9 :: s10 :: s11 :: s12 :: s13 :: s14 :: s15 :: s16 :: s17 :: s18 :: s19 :: s20 :: some v :: ss) H Q) G' := ⟨fun z => g_var (by rfl) (q.h z)⟩
instance rd_s21 [q : Rd (P (s0 :: s1 :: s2 :: s3 :: s4 :: s5 :: s6 :: s7 :: s8 :: s9 :: s10 :: s11 :: s12 :: s13 :: s14 :: s15 :: s16 :: s17 :: s18 :: s19 :: s20 :: some v :: ss) H) G'] : Rd1 (kSet 21 (s0 :: s1 :: s2 :: s3 :: s4 :: s5 :: s6 :: s7 :: s8 :: s9 :: s10 :: s11 :: s12 :: s13 :: s14 :: s15 :: s16 :: s17 :: s18 :: s19 :: s20 :: s21 :: ss) P v H) G' := ⟨fun z => q.h z⟩
instance rd_a21 [q : Rd (te (s0 :: s1 :: s2 :: s3 :: s4 :: s5 :: s6 :: s7 :: s8 :: s9 :: s10 :: s11 :: s12 :: s13 :: s14 :: s15 :: s16 :: s17 :: s18 :: s19 :: s20 :: some x :: ss) H (kLu2 21 x rd (s0 :: s1 :: s2 :: s3 :: s4 :: s5 :: s6 :: s7 :: s8 :: s9 :: s10 :: s11 :: s12 :: s13 :: s14 :: s15 :: s16 :: s17 :: s18 :: s19 :: s20 :: some x :: ss) a1)) G'] : Rd1 (tAug 21 te rd ⟨a1, a2, a3, a4⟩ (s0 :: s1 :: s2 :: s3 :: s4 :: s5 :: s6 :: s7 :: s8 :: s9 :: s10 :: s11 :: s12 :: s13 :: s14 :: s15 :: s16 :: s17 :: s18 :: s19 :: s20 :: some x :: ss) H) G' := ⟨fun z => ⟨x, by rfl, q.h z⟩⟩
instance rd_v22 [q : Rd (Q v H) G'] : Rd1 (tVar 22 (s0 :: s1 :: s2 :: s3 :: s4 :: s5 :: s6 :: s7 :: s8 :: s9 :: s10 :: s11 :: s12 :: s13 :: s14 :: s15 :: s16 :: s17 :: s18 :: s19 :: s20 :: s21 :: some v :: ss) H Q) G' := ⟨fun z => g_var (by rfl) (q.h z)⟩
instance rd_s22 [q : Rd (P (s0 :: s1 :: s2 :: s3 :: s4 :: s5 :: s6 :: s7 :: s8 :: s9 :: s10 :: s11 :: s12 :: s13 :: s14 :: s15 :: s16 :: s17 :: s18 :: s19 :: s20 :: s21 :: some v :: ss) H) G'] : Rd1 (kSet 22 (s0 :: s1 :: s2 :: s3 :: s4 :: s5 :: s6 :: s7 :: s8 :: s9 :: s10 :: s11 :: s12 :: s13 :: s14 :: s15 :: s16 :: s17 :: s18 :: s19 :: s20 :: s21 :: s22 :: ss) P v H) G' := ⟨fun z => q.h z⟩
instance rd_a22 [q : Rd (te (s0 :: s1 :: s2 :: s3 :: s4 :: s5 :: s6 :: s7 :: s8 :: s9 :: s10 :: s11 :: s12 :: s13 :: s14 :: s15 :: s16 :: s17 :: s18 :: s19 :: s20 :: s21 :: some x :: ss) H (kLu2 22 x rd (s0 :: s1 :: s2 :: s3 :: s4 :: s5 :: s6 :: s7 :: s8 :: s9 :: s10 :: s11 :: s12 :: s13 :: s14 :: s15 :: s16 :: s17 :: s18 :: s19 :: s20 :: s21 :: some x :: ss) a1)) G'] : Rd1 (tAug 22 te rd ⟨a1, a2, a3, a4⟩ (s0 :: s1 :: s2 :: s3 :: s4 :: s5 :: s6 :: s7 :: s8 :: s9 :: s10 :: s11 :: s12 :: s13 :: s14 :: s15 :: s16 :: s17 :: s18 :: s19 :: s20 :: s21 :: some x :: ss) H) G' := ⟨fun z => ⟨x, by rfl, q.h z⟩⟩
instance rd_v23 [q : Rd (Q v H) G'] : Rd1 (tVar 23 (s0 :: s1 :: s2 :: s3 :: s4 :: s5 :: s6 :: s7 :: s8 :: s9 :: s10 :: s11 :: s12 :: s13 :: s14 :: s15 :: s16 :: s17 :: s18 :: s19 :: s20 :: s21 :: s22 :: some v :: ss) H Q) G' := ⟨fun z => g_var (by rfl) (q.h z)⟩
instance rd_s23 [q : Rd (P (s0 :: s1 :: s2 :: s3 :: s4 :: s5 :: s6 :: s7 :: s8 :: s9 :: s10 :: s11 :: s12 :: s13 :: s14 :: s15 :: s16 :: s17 :: s18 :: s19 :: s20 :: s21 :: s22 :: some v :: ss) H) G'] : Rd1 (kSet 23 (s0 :: s1 :: s2 :: s3 :: s4 :: s5 :: s6 :: s7 :: s8 :: s9 :: s10 :: s11 :: s12 :: s13 :: s14 :: s15 :: s16 :: s17 :: s18 :: s19 :: s20 :: s21 :: s22 :: s23 :: ss) P v H) G' := ⟨fun z => q.h z⟩
instance rd_a23 [q : Rd (te (s0 :: s1 :: s2 :: s3 :: s4 :: s5 :: s6 :: s7 :: s8 :: s9 :: s10 :: s11 :: s12 :: s13 :: s14 :: s15 :: s16 :: s17 :: s18 :: s19 :: s20 :: s21 :: s22 :: some x :: ss) H (kLu2 23 x rd (s0 :: s1 :: s2 :: s3 :: s4 :: s5 :: s6 :: s7 :: s8 :: s9 :: s10 :: s11 :: s12 :: s13 :: s14 :: s15 :: s16 :: s17 :: s18 :: s19 :: s20 :: s21 :: s22 :: some x :: ss) a1)) G'] : Rd1 (tAug 23 te rd ⟨a1, a2, a3, a4⟩ (s0 :: s1 :: s2 :: s3 :: s4 :: s5 :: s6 :: s7 :: s8 :: s9 :: s10 :: s11 :: s12 :: s13 :: s14 :: s15 :: s16 :: s17 :: s18 :: s19 :: s20 :: s21 :: s22 :: some x :: ss) H) G' := ⟨fun z => ⟨x, by rfl, q.h z⟩⟩
theorem rd_go {G G' : Prop} [r : Rd1 G G'] (k : G') : G := r.h k
end
end SL
end

section
set_option Elab.async false
set_option linter.all false
set_option maxRecDepth 100000
/-! SL4: data of any depth: isinstance, ==. -/
namespace SL
open PySem L2
section
variable {K : PySem.W.Frag} {H : Hp} {Q : VK} {i : Int} {b : Bool} {a : Addr} {xs : List V} {G' : Prop} {z : Str}
theorem isi_of {x : V} {A B : String} {r : Bool} (t : TyOf K H x (.type A)) (e : kitB A B = some r) (k : Q (.bl r) H) : rIsi K [x, .ty B] H Q := ⟨x, .ty B, .type A, .type B, r, rfl, .ty _, .base t, kit_ty e, k⟩
instance rd_i1 [q : Rd (Q (.bl true) H) G'] : Rd1 (rIsi K [.int i, .ty "int"] H Q) G' := ⟨fun z => isi_of (.int i) (by decide +kernel) (q.h z)⟩
instance rd_i2 [q : Rd (Q (.bl false) H) G'] : Rd1 (rIsi K [.int i, .ty "bool"] H Q) G' := ⟨fun z => isi_of (.int i) (by decide +kernel) (q.h z)⟩
instance rd_i3 [q : Rd (Q (.bl false) H) G'] : Rd1 (rIsi K [.int i, .ty "tuple"] H Q) G' := ⟨fun z => isi_of (.int i) (by decide +kernel) (q.h z)⟩
instance rd_i4 [q : Rd (Q (.bl false) H) G'] : Rd1 (rIsi K [.int i, .ty "list"] H Q) G' := ⟨fun z => isi_of (.int i) (by decide +kernel) (q.h z)⟩
instance rd_i5 [q : Rd (Q (.bl true) H) G'] : Rd1 (rIsi K [.bl b, .ty "bool"] H Q) G' := ⟨fun z => isi_of (.bl b) (by decide +kernel) (q.h z)⟩
instance rd_i6 [q : Rd (Q (.bl true) H) G'] : Rd1 (rIsi K [.bl b, .ty "int"] H Q) G' := ⟨fun z => isi_of (.bl b) (by decide +kernel) (q.h z)⟩
instance rd_i7 [q : Rd (Q (.bl false) H) G'] : Rd1 (rIsi K [.non, .ty "bool"] H Q) G' := ⟨fun z => isi_of .non (by decide +kernel) (q.h z)⟩
instance rd_i8 [q : Rd (Q (.bl false) H) G'] : Rd1 (rIsi K [.non, .ty "int"] H Q) G' := ⟨fun z => isi_of .non (by decide +kernel) (q.h z)⟩
instance rd_i9 [q : Rd (Q (.bl false) H) G'] : Rd1 (rIsi K [.non, .ty "tuple"] H Q) G' := ⟨fun z => isi_of .non (by decide +kernel) (q.h z)⟩
instance rd_i10 [q : Rd (Q (.bl false) H) G'] : Rd1 (rIsi K [.str z, .ty "tuple"] H Q) G' := ⟨fun w => isi_of (.str z) (by decide +kernel) (q.h w)⟩
instance rd_i11 [q : Rd (Q (.bl false) H) G'] : Rd1 (rIsi K [.str z, .ty "int"] H Q) G' := ⟨fun w => isi_of (.str z) (by decide +kernel) (q.h w)⟩
instance rd_i12 [q : Rd (Q (.bl false) H) G'] : Rd1 (rIsi K [.str z, .ty "list"] H Q) G' := ⟨fun w => isi_of (.str z) (by decide +kernel) (q.h w)⟩
theorem g_isiLL (h : H a = some (.lst xs)) (k : Q (.bl true) H) : rIsi K [.ref a, .ty "list"] H Q := isi_of (.lst h) (by decide +kernel) k
theorem g_isiLT (h : H a = some (.lst xs)) (k : Q (.bl false) H) : rIsi K [.ref a, .ty "tuple"] H Q := isi_of (.lst h) (by decide +kernel) k
theorem g_isiLI (h : H a = some (.lst xs)) (k : Q (.bl false) H) : rIsi K [.ref a, .ty "int"] H Q := isi_of (.lst h) (by decide +kernel) k
theorem g_isiTT (h : H a = some (.tup xs)) (k : Q (.bl true) H) : rIsi K [.ref a, .ty "tuple"] H Q := isi_of (.tup h) (by decide +kernel) k
theorem g_isiTL (h : H a = some (.tup xs)) (k : Q (.bl false) H) : rIsi K [.ref a, .ty "list"] H Q := isi_of (.tup h) (by decide +kernel) k
theorem g_isiTI (h : H a = some (.tup xs)) (k : Q (.bl false) H) : rIsi K [.ref a, .ty "int"] H Q := isi_of (.tup h) (by decide +kernel) k
theorem g_isiTB (h : H a = some (.tup xs)) (k : Q (.bl false) H) : rIsi K [.ref a, .ty "bool"] H Q := isi_of (.tup h) (by decide +kernel) k
end
/-! ### data as Lean's own -/
class Dat (α : Type) where
  d : α → PyData
  n : Nat
  lay : ∀ x, (d x).canLay0 = true
  dep : ∀ x, (d x).depth ≤ n
  inj : ∀ x y, PyData.eqv (d x) (d y) = true → x = y
theorem Dat.self {α : Type} [D : Dat α] (x : α) : PyData.eqv (D.d x) (D.d x) = true := SeqAt.eqv_refl _ (D.lay x)
theorem Dat.eq {α : Type} [D : Dat α] [DecidableEq α] (x y : α) : PyData.eqv (D.d x) (D.d y) = decide (x = y) := by
  by_cases h : x = y
  · rw [decide_eq_true h, h]
    exact D.self y
  · rw [decide_eq_false h]
    cases e : PyData.eqv (D.d x) (D.d y) with
    | false => rfl
    | true => exact absurd (D.inj x y e) h
theorem Dat.shaped {α : Type} [D : Dat α] (hn : D.n ≤ 64) (x : α) : SeqAt.shaped (D.d x) = true := Bool.and_eq_true_iff.mpr ⟨D.lay x, decide_eq_true (Nat.le_trans (D.dep x) hn)⟩
instance : Dat Int where
  d := .int
  n := 0
  lay := fun _ => rfl
  dep := fun _ => Nat.le_refl _
  inj := fun x y h => by
    have h2 : (x == y) = true := h
    exact eq_of_beq h2
instance : Dat Bool where
  d := .bool
  n := 0
  lay := fun _ => rfl
  dep := fun _ => Nat.le_refl _
  inj := fun x y h => by
    have h2 : (x == y) = true := h
    exact eq_of_beq h2
theorem lay_all {α : Type} [D : Dat α] : ∀ xs : List α, PyData.canLayAll0 (xs.map D.d) = true
  | [] => rfl
  | x :: xs => by
    show ((D.d x).canLay0 && PyData.canLayAll0 (xs.map D.d)) = true
    rw [D.lay x, lay_all xs] <;> rfl
theorem dep_all {α : Type} [D : Dat α] : ∀ xs : List α, PyData.depthAll (xs.map D.d) ≤ D.n
  | [] => Nat.zero_le _
  | x :: xs => by
    show max (D.d x).depth (PyData.depthAll (xs.map D.d)) ≤ D.n
    have h1 := D.dep x
    have h2 := dep_all (D := D) xs
    omega
theorem inj_all {α : Type} [D : Dat α] : ∀ xs ys : List α, PyData.eqvAll (xs.map D.d) (ys.map D.d) = true → xs = ys
  | [], [], _ => rfl
  | [], _ :: _, h => by cases h
  | _ :: _, [], h => by cases h
  | x :: xs, y :: ys, h => by
    have h2 : (PyData.eqv (D.d x) (D.d y) && PyData.eqvAll (xs.map D.d) (ys.map D.d)) = true := h
    obtain ⟨h3, h4⟩ := Bool.and_eq_true_iff.mp h2
    rw [D.inj x y h3, inj_all xs ys h4]
instance {α : Type} [D : Dat α] : Dat (List α) where
  d := fun xs => .list (xs.map D.d)
  n := D.n + 1
  lay := fun xs => by
    show PyData.canLayAll0 _ = true
    exact lay_all xs
  dep := fun xs => by
    show PyData.depthAll _ + 1 ≤ D.n + 1
    exact Nat.succ_le_succ (dep_all xs)
  inj := fun xs ys h => inj_all xs ys h
/-! what stands at a value, as data -/
section
variable {K : PySem.W.Frag} {H : Hp} {Q : VK} {x y : V} {G' : Prop}
def Is {α : Type} [D : Dat α] (K : PySem.W.Frag) (H : Hp) (v : V) (x : α) : Prop := Dp K H v (D.d x)
theorem is_int {i : Int} : Is K H (.int i) i := .int i
theorem is_bl {b : Bool} : Is K H (.bl b) b := .bl b
theorem dps_map {α : Type} [D : Dat α] {g : α → V} (h : ∀ x, Is K H (g x) x) : ∀ xs : List α, DpAll K H (xs.map g) (xs.map D.d)
  | [] => .nil
  | x :: xs => .cons (h x) (dps_map h xs)
theorem is_lst {α : Type} [D : Dat α] {g : α → V} {a : Addr} {xs : List α} (e : H a = some (.lst (xs.map g))) (h : ∀ x, Is K H (g x) x) : Is K H (.ref a) xs := .lst (SqL.of e) (dps_map h xs)
theorem is_ints {a : Addr} {xs : List Int} (e : H a = some (.lst (xs.map V.int))) : Is K H (.ref a) xs := is_lst e fun _ => is_int
theorem is_bls {a : Addr} {xs : List Bool} (e : H a = some (.lst (xs.map V.bl))) : Is K H (.ref a) xs := is_lst e fun _ => is_bl
class IsL (vs : List V) (xs : outParam (List Int)) : Prop where
  h : vs = xs.map V.int
instance : IsL [] [] := ⟨rfl⟩
instance {i : Int} {vs : List V} {xs : List Int} [q : IsL vs xs] : IsL (V.int i :: vs) (i :: xs) := ⟨by rw [q.h] <;> rfl⟩
theorem is_lit {a : Addr} {vs : List V} {xs : List Int} (e : H a = some (.lst vs)) [q : IsL vs xs] : Is K H (.ref a) xs := is_ints (by rw [e, q.h])
theorem g_eqD {α : Type} [D : Dat α] [DecidableEq α] {u w : α} (h1 : Is K H x u) (h2 : Is K H y w) (hn : D.n ≤ 64) (k : Q (.bl (decide (u = w))) H) : rEqD K x y H Q := ⟨D.d u, D.d w, h1, h2, D.shaped hn u, D.shaped hn w, by rw [D.eq]; exact k⟩
theorem g_neD {α : Type} [D : Dat α] [DecidableEq α] {u w : α} (h1 : Is K H x u) (h2 : Is K H y w) (hn : D.n ≤ 64) (k : Q (.bl (!decide (u = w))) H) : rNeD K x y H Q := ⟨D.d u, D.d w, h1, h2, D.shaped hn u, D.shaped hn w, by rw [D.eq]; exact k⟩
end
/-- an int or None -/
def vO : Option Int → V
  | none => .non
  | some i => .int i
section
variable {K : PySem.W.Frag} {H : Hp} {Q : VK} {a b : Option Int} {G' : Prop} {i : Int}
theorem vO_eq : decide (vO a = vO b) = decide (a = b) := by
  cases a <;> cases b <;> simp [vO]
theorem vO_scal : scal (vO a) (vO b) = true := by cases a <;> cases b <;> rfl
instance rd_o1 [q : Rd (Q (.bl (decide (a = b))) H) G'] : Rd1 (rEq (vO a) (vO b) H Q) G' := ⟨fun z => ⟨vO_scal, by rw [vO_eq]; exact q.h z⟩⟩
instance rd_o2 [q : Rd (Q (.bl (!decide (a = b))) H) G'] : Rd1 (rNe (vO a) (vO b) H Q) G' := ⟨fun z => ⟨vO_scal, by rw [vO_eq]; exact q.h z⟩⟩
instance rd_o3 [q : Rd (Q (.bl (decide (a = none))) H) G'] : Rd1 (rIsN (vO a) .non H Q) G' := ⟨fun z => ⟨rfl, by rw [show (V.non) = vO none from rfl, vO_eq]; exact q.h z⟩⟩
instance rd_o4 [q : Rd (Q (.bl (!decide (a = none))) H) G'] : Rd1 (rNotN (vO a) .non H Q) G' := ⟨fun z => ⟨rfl, by rw [show (V.non) = vO none from rfl, vO_eq]; exact q.h z⟩⟩
instance rd_o5 [q : Rd (Q (.bl (decide (a = some i))) H) G'] : Rd1 (rEq (vO a) (.int i) H Q) G' := ⟨fun z => by
  show rEq (vO a) (vO (some i)) H Q
  exact ⟨vO_scal, by rw [vO_eq]; exact q.h z⟩⟩
instance rd_o6 [q : Rd (Q (.bl (!decide (a = some i))) H) G'] : Rd1 (rNe (vO a) (.int i) H Q) G' := ⟨fun z => by
  show rNe (vO a) (vO (some i)) H Q
  exact ⟨vO_scal, by rw [vO_eq]; exact q.h z⟩⟩
instance rd_o7 [q : Rd (Q (.bl (decide (a = none))) H) G'] : Rd1 (rEq (vO a) .non H Q) G' := ⟨fun z => by
  show rEq (vO a) (vO none) H Q
  exact ⟨vO_scal, by rw [vO_eq]; exact q.h z⟩⟩
instance rd_o8 [q : Rd (Q (.bl (!decide (a = none))) H) G'] : Rd1 (rNe (vO a) .non H Q) G' := ⟨fun z => by
  show rNe (vO a) (vO none) H Q
  exact ⟨vO_scal, by rw [vO_eq]; exact q.h z⟩⟩
instance rd_o9 [q : Rd (Q (.bl false) H) G'] : Rd1 (rIsi K [vO a, .ty "bool"] H Q) G' := ⟨fun z => by
  cases a with
  | none => exact isi_of .non (by decide +kernel) (q.h z)
  | some i => exact isi_of (.int i) (by decide +kernel) (q.h z)⟩
end
end SL
end

section
set_option linter.all false
set_option autoImplicit true
set_option relaxedAutoImplicit true
namespace SL
open PySem L2
theorem hd_fld {K f Q x H} (k : kFld K f Q x H) : kFld K f Q x H := k
theorem hd_st2 {K f y s P x H} (k : kSt2 K f y s P x H) : kSt2 K f y s P x H := k
theorem hd_au1 {K tv rd f s P x H} (k : kAu1 K tv rd f s P x H) : kAu1 K tv rd f s P x H := k
theorem hd_au3 {K p C f s P y H} (k : kAu3 K p C f s P y H) : kAu3 K p C f s P y H := k
theorem hd_meth {C m sp dvs E tr s Q x H} (k : kMeth C m sp dvs E tr s Q x H) : kMeth C m sp dvs E tr s Q x H := k
theorem hd_len {K vs H Q} (k : rLen K vs H Q) : rLen K vs H Q := k
theorem hd_bm {K ty rr tr s Q x H} (k : kBM K ty rr tr s Q x H) : kBM K ty rr tr s Q x H := k
theorem hd_bm0 {K ty rr Q x H} (k : kBM0 K ty rr Q x H) : kBM0 K ty rr Q x H := k
theorem hd_popAt {x vs H Q} (k : rPopAt x vs H Q) : rPopAt x vs H Q := k
theorem hd_app {x vs H Q} (k : rAppend x vs H Q) : rAppend x vs H Q := k
theorem hd_lst {Q vs H} (k : kLst Q vs H) : kLst Q vs H := k
theorem hd_tup {Q vs H} (k : kTup Q vs H) : kTup Q vs H := k
theorem hd_list {K vs H Q} (k : rList K vs H Q) : rList K vs H Q := k
theorem hd_ixL {K x y H Q} (k : rIxL K x y H Q) : rIxL K x y H Q := k
theorem hd_ixT {K x y H Q} (k : rIxT K x y H Q) : rIxT K x y H Q := k
theorem hd_su2 {y rr x s P z H} (k : kSu2 y rr x s P z H) : kSu2 y rr x s P z H := k
theorem hd_slL {K x lo hi H Q} (k : rSlL K x lo hi H Q) : rSlL K x lo hi H Q := k
theorem hd_listI {K I0 x H} (k : kListI K I0 x H) : kListI K I0 x H := k
theorem hd_tupI {K I0 x H} (k : kTupI K I0 x H) : kTupI K I0 x H := k
theorem hd_gtup {K n u1 x s H P} (k : gTup K n u1 x s H P) : gTup K n u1 x s H P := k
theorem hd_rng1 {I0 vs H} (k : kRng1 I0 vs H) : kRng1 I0 vs H := k
theorem hd_rng2 {I0 vs H} (k : kRng2 I0 vs H) : kRng2 I0 vs H := k
theorem hd_make {C sp dvs E Q vs H} (k : kMake C sp dvs E Q vs H) : kMake C sp dvs E Q vs H := k
theorem hd_isi {K vs H Q} (k : rIsi K vs H Q) : rIsi K vs H Q := k
theorem hd_eqD {K x y H Q} (k : rEqD K x y H Q) : rEqD K x y H Q := k
theorem hd_neD {K x y H Q} (k : rNeD K x y H Q) : rNeD K x y H Q := k
end SL
end

section
set_option Elab.async false
set_option linter.all false
set_option maxRecDepth 100000
/-! ## SL6: lists of one kind (xs.map g), comprehensions over a frame that stands still -/
namespace SL
open PySem PySem.Spec PyProof.Rows L2
section
variable {K : PySem.W.Frag} {H : Hp} {F : List Atom} {Q : VK} {a l p : Addr} {α : Type} {g : α → V} {xs ys : List α} {z d : α} {P : L2.St → Hp → Prop} {σ : L2.St}
/-- the item at a place, by a number of the program -/
def at0 [Inhabited α] (xs : List α) (i : Int) : α := xs.getD i.toNat default
theorem at0_nat [Inhabited α] {j : Nat} : at0 xs (j : Int) = xs.getD j default := rfl
theorem atI_map [Inhabited α] {i : Int} (h : 0 ≤ i ∧ i < xs.length) : atI (xs.map g) i = some (g (at0 xs i)) := by
  have e : i = (i.toNat : Int) := (Int.toNat_of_nonneg h.1).symm
  have b : i.toNat < xs.length := by omega
  have q : (xs.map g)[i.toNat]? = some (g (at0 xs i)) := by
    rw [List.getElem?_map, List.getElem?_eq_getElem b]
    show some (g xs[i.toNat]) = some (g (xs.getD i.toNat default))
    rw [List.getD_eq_getElem?_getD, List.getElem?_eq_getElem b] <;> rfl
  rw [e]
  exact atI_nat q
theorem ixN_of {n : Nat} {i : Int} (h : 0 ≤ i ∧ i < n) : ixN n i = some i.toNat := by
  unfold ixN
  rw [if_pos h.1, if_pos h.2]
theorem g_ixLM [Inhabited α] {i : Int} (h : H a = some (.lst (xs.map g))) (e : 0 ≤ i ∧ i < xs.length) (k : Q (g (at0 xs i)) H) : rIxL K (.ref a) (.int i) H Q := g_ixL h (atI_map e) k
theorem g_setLM {i : Int} (zz : Own H (pt a (.lst (xs.map g)) :: F)) (e : 0 ≤ i ∧ i < xs.length) (k : ∀ H1, Own H1 (pt a (.lst ((xs.set i.toNat z).map g)) :: F) → P σ H1) : kSu2 (g z) rSetL (.ref a) σ P (.int i) H :=
  g_setL (j := i.toNat) zz (by rw [List.length_map]; exact ixN_of e) fun H1 q => k H1 (by rw [List.map_set]; exact q)
theorem g_appendM (zz : Own H (pt a (.lst (xs.map g)) :: F)) (s : xs.length < 10000000) (k : ∀ H1, Own H1 (pt a (.lst ((xs ++ [z]).map g)) :: F) → Q .non H1) : rAppend (.ref a) [g z] H Q :=
  g_append zz (by rw [List.length_map]; exact s) fun H1 q => k H1 (by rw [List.map_append]; exact q)
theorem vO_some {o : Int} : vO (some o) = .int o := rfl
theorem vO_none : vO none = .non := rfl
theorem g_setOS {xs : List (Option Int)} {i o : Int} (zz : Own H (pt a (.lst (xs.map vO)) :: F)) (e : 0 ≤ i ∧ i < xs.length) (k : ∀ H1, Own H1 (pt a (.lst ((xs.set i.toNat (some o)).map vO)) :: F) → P σ H1) : kSu2 (.int o) rSetL (.ref a) σ P (.int i) H := g_setLM (g := vO) (z := some o) zz e k
theorem g_setON {xs : List (Option Int)} {i : Int} (zz : Own H (pt a (.lst (xs.map vO)) :: F)) (e : 0 ≤ i ∧ i < xs.length) (k : ∀ H1, Own H1 (pt a (.lst ((xs.set i.toNat none).map vO)) :: F) → P σ H1) : kSu2 .non rSetL (.ref a) σ P (.int i) H := g_setLM (g := vO) (z := none) zz e k
theorem flat_one {β : Type} (n : Nat) (x : β) : (List.replicate n [x]).flatten = List.replicate n x := by
  induction n with
  | zero => rfl
  | succ n ih => rw [List.replicate_succ, List.flatten_cons, ih] <;> rfl
theorem g_repB {i : Int} {b : Bool} (h : H a = some (.lst [.bl b])) (zz : Own H F) (s : 0 ≤ i ∧ i ≤ 1000) (k : ∀ q H1, Own H1 (pt q (.lst ((List.replicate i.toNat b).map V.bl)) :: F) → Q (.ref q) H1) : rRep (.ref a) (.int i) H Q :=
  g_rep h zz s (show (1 : Nat) ≤ 1000 by decide) fun q H1 w => k q H1 (by rw [flat_one] at w; rw [List.map_replicate]; exact w)
theorem g_repI {i n : Int} (h : H a = some (.lst [.int n])) (zz : Own H F) (s : 0 ≤ i ∧ i ≤ 1000) (k : ∀ q H1, Own H1 (pt q (.lst ((List.replicate i.toNat n).map V.int)) :: F) → Q (.ref q) H1) : rRep (.ref a) (.int i) H Q :=
  g_rep h zz s (show (1 : Nat) ≤ 1000 by decide) fun q H1 w => k q H1 (by rw [flat_one] at w; rw [List.map_replicate]; exact w)
theorem g_repN {i : Int} {y : V} (h : H a = some (.lst [y])) (zz : Own H F) (s : 0 ≤ i ∧ i ≤ 1000) (k : ∀ q H1, Own H1 (pt q (.lst (List.replicate i.toNat y)) :: F) → Q (.ref q) H1) : rRep (.ref a) (.int i) H Q :=
  g_rep h zz s (show (1 : Nat) ≤ 1000 by decide) fun q H1 w => k q H1 (by rw [flat_one] at w; exact w)
theorem hd_rep {x y : V} (k : rRep x y H Q) : rRep x y H Q := k
theorem hd_cat {x y : V} (k : rCat x y H Q) : rCat x y H Q := k
theorem hd_ext {x : V} {vs : List V} (k : rExtend x vs H Q) : rExtend x vs H Q := k
theorem hd_pop {x : V} {vs : List V} (k : rPop x vs H Q) : rPop x vs H Q := k
theorem g_catM {zs : List α} (h : H a = some (.lst (xs.map g))) (h2 : H l = some (.lst (zs.map g))) (zz : Own H F) (s : xs.length + zs.length ≤ 10000000) (k : ∀ q H1, Own H1 (pt q (.lst ((xs ++ zs).map g)) :: F) → Q (.ref q) H1) : rCat (.ref a) (.ref l) H Q :=
  g_cat h h2 zz (by rw [List.length_map, List.length_map]; exact s) fun q H1 w => k q H1 (by rw [List.map_append]; exact w)
theorem g_extendM {zs : List α} (zz : Own H (pt a (.lst (xs.map g)) :: F)) (h : H l = some (.lst (zs.map g))) (s : xs.length + zs.length ≤ 10000000) (k : ∀ H1, Own H1 (pt a (.lst ((xs ++ zs).map g)) :: F) → Q .non H1) : rExtend (.ref a) [.ref l] H Q :=
  g_extend zz h (by rw [List.length_map, List.length_map]; exact s) fun H1 w => k H1 (by rw [List.map_append]; exact w)
end
section
variable {K : PySem.W.Frag} {H : Hp} {F : List Atom} {Q : VK} {a : Addr} {σ : L2.St} {vs : List Nat} {t : TT} {te : TE} {α : Type}
theorem comp_rangeP {n : Nat} {g : TG} (σ0 : L2.St) (pp : Nat → Bool) (f : Nat → V) (hn : n ≤ 1000000) (hw : wipe σ vs = σ0) (z : Own H F)
    (hs : ∀ (i : Nat) (G : Atom) H' (Y : VK) (N : Hp → Prop), i < n → Own H' (G :: F) → (pp i = true → ∀ H4, Own H4 (G :: F) → Y (f i) H4) → (pp i = false → ∀ H3, Own H3 (G :: F) → N H3) → g (.int (i : Int)) σ0 H' (kWp vs σ0 t te Y N))
    (hd : ∀ D H', Own H' (pt D (.lst (((List.range n).filter pp).map f)) :: F) → Q (.ref D) H') : kLc g t te vs σ Q (Itr 0 n) H := by
  refine comp_range σ0 hn hw (fun i acc => pu (acc = ((List.range i).filter pp).map f) :: F) (own_put rfl z) ?_ ?_
  · intro i acc G H' Y N hi hl w hY hN
    obtain ⟨e, w⟩ := own_pu (own_p1 w)
    refine hs i G H' Y N hi w (fun hp H4 w4 => hY _ _ (own_p1 (own_put ?_ w4))) (fun hp H3 w3 => hN _ (own_p1 (own_put ?_ w3)))
    · rw [e, List.range_succ, List.filter_append, List.map_append]
      show _ = _ ++ (List.filter pp [i]).map f
      rw [List.filter_cons_of_pos hp] <;> rfl
    · rw [e, List.range_succ, List.filter_append, List.map_append]
      show _ = _ ++ (List.filter pp [i]).map f
      rw [List.filter_cons_of_neg (by rw [hp]; exact Bool.false_ne_true)]
      show _ = _ ++ []
      rw [List.append_nil]
  · intro acc D H' hl w
    obtain ⟨e, w⟩ := own_pu (own_p1 w)
    rw [e] at w
    exact hd D H' w
theorem comp_listP {g : TG} (xs : List α) (gx : α → V) (σ0 : L2.St) (pp : α → Bool) (f : α → V) (hn : xs.length ≤ 1000000) (hw : wipe σ vs = σ0) (z : Own H F) (hl : ∀ H', Own H' F → SqL K H' a (xs.map gx))
    (hs : ∀ (x : α) (G : Atom) H' (Y : VK) (N : Hp → Prop), x ∈ xs → Own H' (G :: F) → (pp x = true → ∀ H4, Own H4 (G :: F) → Y (f x) H4) → (pp x = false → ∀ H3, Own H3 (G :: F) → N H3) → g (gx x) σ0 H' (kWp vs σ0 t te Y N))
    (hd : ∀ D H', Own H' (pt D (.lst ((xs.filter pp).map f)) :: F) → Q (.ref D) H') : kLc g t te vs σ Q (Itl K a) H := by
  refine comp_list (xs := xs.map gx) σ0 (by rw [List.length_map]; exact hn) hw (fun i acc => pu (acc = ((xs.take i).filter pp).map f) :: F) (own_put rfl z) (fun i acc H' w => hl H' w.tail) ?_ ?_
  · intro i x acc G H' Y N hi hl w hY hN
    rw [List.getElem?_map] at hi
    cases e : xs[i]? with
    | none => rw [e] at hi; cases hi
    | some y =>
      rw [e] at hi
      cases hi
      have hy : y ∈ xs := List.mem_of_getElem? e
      obtain ⟨e1, w⟩ := own_pu (own_p1 w)
      have e2 : xs.take (i + 1) = xs.take i ++ [y] := by rw [List.take_succ, e] <;> rfl
      refine hs y G H' Y N hy w (fun hp H4 w4 => hY _ _ (own_p1 (own_put ?_ w4))) (fun hp H3 w3 => hN _ (own_p1 (own_put ?_ w3)))
      · rw [e1, e2, List.filter_append, List.map_append]
        show _ = _ ++ (List.filter pp [y]).map f
        rw [List.filter_cons_of_pos hp] <;> rfl
      · rw [e1, e2, List.filter_append, List.map_append]
        show _ = _ ++ (List.filter pp [y]).map f
        rw [List.filter_cons_of_neg (by rw [hp]; exact Bool.false_ne_true)]
        show _ = _ ++ []
        rw [List.append_nil]
  · intro acc D H' hl w
    obtain ⟨e, w⟩ := own_pu (own_p1 w)
    rw [e, List.length_map, List.take_length] at w
    exact hd D H' w
/-- for x in a list of one kind that stands still -/
theorem loop_listM {q : Nat} {ts : TS} {a1 a3 a4 : L2.St → Hp → Prop} {a2 : VK} (xs : List α) (gx : α → V) (W : Nat → L2.St → Hp → Prop) (h0 : W 0 σ H) (hl : ∀ i σ' H', W i σ' H' → SqL K H' a (xs.map gx))
    (hs : ∀ (i : Nat) x σ' H', xs[i]? = some x → W i σ' H' → kSet q σ' (ts ⟨W (i + 1), a2, a1, W (i + 1)⟩) (gx x) H') (hd : ∀ σ' H', W xs.length σ' H' → a1 σ' H') : kFor (gName q) ts ⟨a1, a2, a3, a4⟩ σ (Itl K a) H :=
  loop_listS (xs := xs.map gx) W h0 hl (fun i x σ' H' hi w => by
    rw [List.getElem?_map] at hi
    cases e : xs[i]? with
    | none => rw [e] at hi; cases hi
    | some y =>
      rw [e] at hi
      cases hi
      exact hs i y σ' H' e w) (fun σ' H' w => hd σ' H' (by rw [List.length_map] at w; exact w))
end
abbrev De (Q : VK) : Ends := ⟨fun _ H' => Q .non H', Q, fun _ _ => False, fun _ _ => False⟩
theorem bl_true {Q : VK} {b : Bool} {H : Hp} (e : b = true) (k : Q (.bl true) H) : Q (.bl b) H := by
  rw [e]
  exact k
theorem bl_false {Q : VK} {b : Bool} {H : Hp} (e : b = false) (k : Q (.bl false) H) : Q (.bl b) H := by
  rw [e]
  exact k
/-- a list display of numbers -/
class Il (ys : List V) (xs : outParam (List Int)) : Prop where
  h : ys = xs.map V.int
instance : Il [] [] := ⟨rfl⟩
instance {n : Int} {ys : List V} {xs : List Int} [i : Il ys xs] : Il (.int n :: ys) (n :: xs) := ⟨by rw [i.h] <;> rfl⟩
instance {xs : List Int} : Il (xs.map V.int) xs := ⟨rfl⟩
end SL
end

section
set_option Elab.async false
set_option linter.all false
set_option maxRecDepth 100000
/-! ## SL7: dicts by numbers -/
namespace SL
open PySem PySem.Spec L2
section
variable {K : PySem.W.Frag} {td ty tx tv : TE} {σ : L2.St} {H : Hp} {F : List Atom} {Q : VK} {P : L2.St → Hp → Prop} {x y z v : V} {a : Addr} {G' : Prop} {a1 a3 a4 : L2.St → Hp → Prop} {a2 : VK}
def kDG2 (x : V) (Q : VK) : VK := fun y H2 => ∃ a v, x = .ref a ∧ DGet H2 a y (some v) ∧ Q v H2
def kDG1 (ty : TE) (σ : L2.St) (Q : VK) : VK := fun x H1 => ty σ H1 (kDG2 x Q)
def kD23 (a : Addr) (y : V) (Q : VK) : VK := fun z H3 => ∃ o, DGet H3 a y o ∧ Q (o.getD z) H3
def kD22 (a : Addr) (tx : TE) (σ : L2.St) (Q : VK) : VK := fun y H2 => tx σ H2 (kD23 a y Q)
def kD21 (ty tx : TE) (σ : L2.St) (Q : VK) : VK := fun x H1 => ∃ a, x = .ref a ∧ IsD H1 a ∧ ty σ H1 (kD22 a tx σ Q)
def kDP3 (v x : V) (σ : L2.St) (P : L2.St → Hp → Prop) : VK := fun y H3 => ∃ a H4, x = .ref a ∧ DPut H3 a y v H4 ∧ P σ H4
def kDP2 (v : V) (ty : TE) (σ : L2.St) (P : L2.St → Hp → Prop) : VK := fun x H2 => ty σ H2 (kDP3 v x σ P)
def kDP1 (td ty : TE) (σ : L2.St) (P : L2.St → Hp → Prop) : VK := fun v H1 => td σ H1 (kDP2 v ty σ P)
instance [q : Rd (td σ H (kDG1 ty σ Q)) G'] : Rd1 (tDGet td ty σ H Q) G' := ⟨fun z => q.h z⟩
instance [q : Rd (ty σ H (kDG2 x Q)) G'] : Rd1 (kDG1 ty σ Q x H) G' := ⟨fun z => q.h z⟩
instance [q : Rd (td σ H (kD21 ty tx σ Q)) G'] : Rd1 (tDGet2 td ty tx σ H Q) G' := ⟨fun z => q.h z⟩
instance [q : Rd (tx σ H (kD23 a y Q)) G'] : Rd1 (kD22 a tx σ Q y H) G' := ⟨fun z => q.h z⟩
instance [q : Rd (tv σ H (kDP1 td ty σ a1)) G'] : Rd1 (sDPut td ty tv ⟨a1, a2, a3, a4⟩ σ H) G' := ⟨fun z => q.h z⟩
instance [q : Rd (td σ H (kDP2 v ty σ P)) G'] : Rd1 (kDP1 td ty σ P v H) G' := ⟨fun z => q.h z⟩
instance [q : Rd (ty σ H (kDP3 v x σ P)) G'] : Rd1 (kDP2 v ty σ P x H) G' := ⟨fun z => q.h z⟩
theorem hd_dg2 (k : kDG2 x Q y H) : kDG2 x Q y H := k
theorem hd_d21 (k : kD21 ty tx σ Q x H) : kD21 ty tx σ Q x H := k
theorem hd_d23 (k : kD23 a y Q z H) : kD23 a y Q z H := k
theorem hd_dp3 (k : kDP3 v x σ P y H) : kDP3 v x σ P y H := k
/-- a dict from numbers (0 to 999) to numbers -/
structure diA (a : Addr) (f : Int → Option Int) (h : Hp) : Prop where
  e : ∃ kvs : List (Key × V), pt a (.dK kvs) h ∧ (∀ i, valV kvs (.inl i) = (f i).map V.int) ∧ (kvs.map (·.1)).Nodup ∧ ∀ q ∈ kvs, ∃ j : Nat, j < 1000 ∧ q.1 = .inl (j : Int)
theorem nodup_len : ∀ (n : Nat) (l : List Nat), l.Nodup → (∀ x ∈ l, x < n) → l.length ≤ n
  | 0, [], _, _ => Nat.le_refl _
  | 0, x :: l, _, h => absurd (h x (List.mem_cons_self ..)) (Nat.not_lt_zero _)
  | n + 1, l, nd, h => by
    have e := nodup_len n (l.erase n) (nd.erase n) fun x hx => by
      have m := (List.Nodup.mem_erase_iff nd).mp hx
      have := h x m.2
      have := m.1
      omega
    have := List.length_erase (a := n) (l := l)
    split at this <;> omega
theorem nodup_pull {α β : Type} (f : α → β) : ∀ (l : List α), (l.map f).Nodup → l.Nodup
  | [], _ => List.nodup_nil
  | a :: l, h => by
    rw [List.map_cons, List.nodup_cons] at h
    exact List.nodup_cons.mpr ⟨fun m => h.1 (List.mem_map_of_mem m), nodup_pull f l h.2⟩
theorem di_len {kvs : List (Key × V)} (h1 : (kvs.map (·.1)).Nodup) (h2 : ∀ q ∈ kvs, ∃ j : Nat, j < 1000 ∧ q.1 = .inl (j : Int)) : kvs.length ≤ 1000 := by
  let g : Key → Nat := fun k => match k with
    | .inl i => i.toNat
    | .inr _ => 0
  have e : kvs.map (·.1) = (kvs.map fun q => g q.1).map fun (j : Nat) => (Sum.inl (j : Int) : Key) := by
    rw [List.map_map]
    refine List.map_congr_left fun q hq => ?_
    obtain ⟨j, _, e⟩ := h2 q hq
    show q.1 = Sum.inl ((g q.1 : Nat) : Int)
    rw [e] <;> rfl
  have nd : (kvs.map fun q => g q.1).Nodup := by
    rw [e] at h1
    exact nodup_pull _ _ h1
  have := nodup_len 1000 _ nd fun x hx => by
    obtain ⟨q, hq, rfl⟩ := List.mem_map.mp hx
    obtain ⟨j, hj, e⟩ := h2 q hq
    show g q.1 < 1000
    rw [e]
    exact hj
  rw [List.length_map] at this
  exact this
theorem di_pt {f : Int → Option Int} (w : Own H (diA a f :: F)) : ∃ kvs : List (Key × V), Own H (pt a (.dK kvs) :: F) ∧ (∀ i, valV kvs (.inl i) = (f i).map V.int) ∧ (kvs.map (·.1)).Nodup ∧ ∀ q ∈ kvs, ∃ j : Nat, j < 1000 ∧ q.1 = .inl (j : Int) := by
  obtain ⟨kvs, y⟩ := own_ex (w.mono1 fun _ q => q.e)
  obtain ⟨h, ⟨_, c⟩, _⟩ := y.at1
  exact ⟨kvs, y.mono1 fun _ q => q.1, c⟩
theorem g_dgetF {f : Int → Option Int} {i j : Int} (w : Own H (diA a f :: F)) (e : f i = some j) (k : Q (.int j) H) : kDG2 (.ref a) Q (.int i) H := by
  obtain ⟨kvs, w2, h1, _, _⟩ := di_pt w
  refine ⟨a, .int j, rfl, ?_, k⟩
  have q := DGet.k (k := Sum.inl i) (own_pt w2)
  rw [h1, e] at q
  exact q
theorem g_d21F {f : Int → Option Int} (w : Own H (diA a f :: F)) (k : ty σ H (kD22 a tx σ Q)) : kD21 ty tx σ Q (.ref a) H := by
  obtain ⟨kvs, w2, _⟩ := di_pt w
  exact ⟨a, rfl, .inl ⟨kvs, .inl (own_pt w2)⟩, k⟩
theorem g_d23F {f : Int → Option Int} {i j : Int} (w : Own H (diA a f :: F)) (k : Q (.int ((f i).getD j)) H) : kD23 a (.int i) Q (.int j) H := by
  obtain ⟨kvs, w2, h1, _, _⟩ := di_pt w
  refine ⟨valV kvs (.inl i), DGet.k (k := Sum.inl i) (own_pt w2), ?_⟩
  rw [h1]
  have q : ∀ o : Option Int, Q (.int (o.getD j)) H → Q ((o.map V.int).getD (.int j)) H := fun o h => by cases o <;> exact h
  exact q _ k
theorem keys_putK (kvs : List (Key × V)) (k : Key) (v : V) (h : (kvs.map (·.1)).Nodup) : ((putK kvs k v).map (·.1)).Nodup ∧ ∀ q ∈ putK kvs k v, q.1 = k ∨ ∃ p ∈ kvs, p.1 = q.1 := by
  unfold putK
  split
  · have e : (kvs.map fun kv => if kv.1 = k then (kv.1, v) else kv).map (·.1) = kvs.map (·.1) := by
      rw [List.map_map]
      refine List.map_congr_left fun q _ => ?_
      show (if q.1 = k then (q.1, v) else q).1 = q.1
      split <;> rfl
    refine ⟨by rw [e]; exact h, fun q hq => ?_⟩
    obtain ⟨p, hp, rfl⟩ := List.mem_map.mp hq
    exact .inr ⟨p, hp, by split <;> rfl⟩
  · rename_i hn
    refine ⟨?_, fun q hq => ?_⟩
    · rw [List.map_append]
      refine List.nodup_append.mpr ⟨h, by simp, fun a ha b hb e => ?_⟩
      obtain ⟨p, hp, rfl⟩ := List.mem_map.mp ha
      have : b = k := by simpa using hb
      refine hn (List.any_eq_true.mpr ⟨p, hp, ?_⟩)
      rw [decide_eq_true_eq, e, this]
    · rcases List.mem_append.mp hq with m | m
      · exact .inr ⟨q, m, rfl⟩
      · exact .inl (by rw [List.mem_singleton.mp m])
theorem g_dputF {f : Int → Option Int} {i j : Int} (w : Own H (diA a f :: F)) (h : 0 ≤ i ∧ i < 1000) (k : ∀ H1, Own H1 (diA a (fun n => if n = i then some j else f n) :: F) → P σ H1) : kDP3 (.int j) (.ref a) σ P (.int i) H := by
  obtain ⟨kvs, w2, h1, h2, h3⟩ := di_pt w
  have l := di_len h2 h3
  obtain ⟨k1, k2⟩ := keys_putK kvs (.inl i) (.int j) h2
  refine ⟨a, _, rfl, DPut.k (k := Sum.inl i) (own_pt w2) (size_of (by omega)), k _ ?_⟩
  refine (own_set w2 rfl).mono1 fun _ q => ⟨⟨_, q, fun n => ?_, k1, fun q hq => ?_⟩⟩
  · rw [valV_put, h1]
    by_cases e : n = i
    · rw [if_pos (by rw [e]), if_pos e] <;> rfl
    · rw [if_neg (fun z => e (Sum.inl.inj z)), if_neg e]
  · rcases k2 q hq with e | ⟨p, hp, e⟩
    · exact ⟨i.toNat, by omega, by rw [e, Int.toNat_of_nonneg h.1]⟩
    · rw [← e]
      exact h3 p hp
theorem g_dputE {f : Int → Option Int} {i j z : Int} (w : Own H (diA a f :: F)) (h : f i = some z) (k : ∀ H1, Own H1 (diA a (fun n => if n = i then some j else f n) :: F) → P σ H1) : kDP3 (.int j) (.ref a) σ P (.int i) H := by
  obtain ⟨kvs, w2, h1, h2, h3⟩ := di_pt w
  have b : 0 ≤ i ∧ i < 1000 := by
    have e := h1 i
    rw [h] at e
    have m : ∃ q ∈ kvs, q.1 = Sum.inl i := by
      unfold valV at e
      cases c : kvs.find? fun kv => decide (kv.1 = Sum.inl i) with
      | none => rw [c] at e; cases e
      | some q => exact ⟨q, List.mem_of_find?_eq_some c, by simpa using List.find?_some c⟩
    obtain ⟨q, hq, e2⟩ := m
    obtain ⟨n, hn, e3⟩ := h3 q hq
    have := Sum.inl.inj (e2.symm.trans e3)
    omega
  exact g_dputF w b k
theorem g_dnew (w : Own H F) (k : ∀ p H1, Own H1 (diA p (fun _ => none) :: F) → Q (.ref p) H1) : tDNewK σ H Q := fun p hp => k p _ ((own_new w hp).mono1 fun _ q => ⟨⟨[], q, fun _ => rfl, List.nodup_nil, fun _ h => nomatch h⟩⟩)
theorem hd_dnew (k : tDNewK σ H Q) : tDNewK σ H Q := k
end
end SL
end

section
set_option Elab.async false
set_option linter.all false
set_option maxRecDepth 100000
/-! ## SL8: sum, all, max, min; is not True -/
namespace SL
open PySem PySem.Spec L2
section
variable {K : PySem.W.Frag} {H : Hp} {F : List Atom} {Q : VK} {a : Addr} {G' : Prop} {b c : Bool}
def rNotBl : R2 := fun x y H Q => ∃ a b : Bool, x = .bl a ∧ y = .bl b ∧ Q (.bl (!decide (a = b))) H
theorem op_notBlI {X : Cx} : OpR X (compareOp .IsNot) rNotBl := op_notBl
instance [q : Rd (Q (.bl (!decide (b = c))) H) G'] : Rd1 (rNotBl (.bl b) (.bl c) H Q) G' := ⟨fun z => ⟨b, c, rfl, rfl, q.h z⟩⟩
theorem hd_sum {vs : List V} (k : rSum K vs H Q) : rSum K vs H Q := k
theorem hd_all {vs : List V} (k : rAll K vs H Q) : rAll K vs H Q := k
theorem hd_max {vs : List V} (k : rMax K vs H Q) : rMax K vs H Q := k
theorem hd_min {vs : List V} (k : rMin K vs H Q) : rMin K vs H Q := k
theorem g_sumI {xs : List Int} (h : H a = some (.lst (xs.map V.int))) (k : Q (.int xs.sum) H) : rSum K [.ref a] H Q := ⟨a, xs, rfl, SqL.of h, k⟩
theorem g_allB {xs : List Bool} (h : H a = some (.lst (xs.map V.bl))) (k : Q (.bl (xs.all id)) H) : rAll K [.ref a] H Q := ⟨a, xs, rfl, SqL.of h, k⟩
theorem g_maxI {xs : List Int} (h : H a = some (.lst (xs.map V.int))) (l : 0 < xs.length) (k : ∀ m, (m ∈ xs ∧ ∀ y, y ∈ xs → y ≤ m) → Q (.int m) H) : rMax K [.ref a] H Q := ⟨a, xs, rfl, SqL.of h, l, fun m h1 h2 => k m ⟨h1, h2⟩⟩
theorem g_minI {xs : List Int} (h : H a = some (.lst (xs.map V.int))) (l : 0 < xs.length) (k : ∀ m, (m ∈ xs ∧ ∀ y, y ∈ xs → m ≤ y) → Q (.int m) H) : rMin K [.ref a] H Q := ⟨a, xs, rfl, SqL.of h, l, fun m h1 h2 => k m ⟨h1, h2⟩⟩
theorem at0_mem {α : Type} [Inhabited α] {xs : List α} {i : Int} (h : 0 ≤ i ∧ i < xs.length) : at0 xs i ∈ xs := by
  have b : i.toNat < xs.length := by omega
  show xs.getD i.toNat default ∈ xs
  rw [List.getD_eq_getElem?_getD, List.getElem?_eq_getElem b]
  exact List.getElem_mem b
theorem g_ixIl {ys : List V} {xs : List Int} {i : Int} (h : H a = some (.lst ys)) [l : Il ys xs] (e : 0 ≤ i ∧ i < xs.length) (k : ∀ v, v ∈ xs → Q (.int v) H) : rIxL K (.ref a) (.int i) H Q := by
  have e1 := l.h
  subst e1
  exact g_ixLM h e (k _ (at0_mem e))
theorem filter_tt {α : Type} (l : List α) : (l.filter fun _ => true) = l := List.filter_eq_self.mpr fun _ _ => rfl
theorem nodup_filter {α : Type} {p : α → Bool} {l : List α} (h : l.Nodup) : (l.filter p).Nodup := h.sublist (List.filter_sublist ..)
/-- a statement behind which ways join: what holds there is told once -/
def tSeqM (t u : TS) : TS := tSeq t u
theorem g_join {tt uu : TS} {a1 a3 a4 : L2.St → Hp → Prop} {a2 : VK} {σ : L2.St} (Mid : L2.St → Hp → Prop) (h1 : ∀ NX : L2.St → Hp → Prop, (∀ σ' H', Mid σ' H' → NX σ' H') → tt ⟨NX, a2, a3, a4⟩ σ H) (h2 : ∀ σ' H', Mid σ' H' → uu ⟨a1, a2, a3, a4⟩ σ' H') : tSeqM tt uu ⟨a1, a2, a3, a4⟩ σ H := h1 _ h2
theorem g_thru {tt uu : TS} {a1 a3 a4 : L2.St → Hp → Prop} {a2 : VK} {σ : L2.St} (k : tt ⟨uu ⟨a1, a2, a3, a4⟩, a2, a3, a4⟩ σ H) : tSeqM tt uu ⟨a1, a2, a3, a4⟩ σ H := k
end
end SL
end

section
set_option Elab.async false
set_option linter.all false
set_option maxRecDepth 100000
/-! ## SL9: the last item, items (bytes, marks of lost bytes), lists told item by item -/
namespace SL
open PySem PySem.Spec L2
section
variable {K : PySem.W.Frag} {H : Hp} {F : List Atom} {Q : VK} {a : Addr} {α : Type} {P : L2.St → Hp → Prop} {σ : L2.St} {y v : V} {vs : List V}
theorem ixN_last {n : Nat} : ixN (n + 1) (-1) = some n := by
  unfold ixN
  simp
  omega
theorem atI_last {xs : List α} {x : α} : atI (xs ++ [x]) (-1) = some x := by
  unfold atI
  rw [show (xs ++ [x]).length = xs.length + 1 by simp, ixN_last]
  simp
theorem set_last {xs : List α} {x z : α} : (xs ++ [x]).set xs.length z = xs ++ [z] := by
  induction xs with
  | nil => rfl
  | cons a xs ih => exact congrArg (a :: ·) ih
theorem g_setLast (w : Own H (pt a (.lst (vs ++ [v])) :: F)) (k : ∀ H1, Own H1 (pt a (.lst (vs ++ [y])) :: F) → P σ H1) : kSu2 y rSetL (.ref a) σ P (.int (-1)) H :=
  g_setL (j := vs.length) w (by rw [show (vs ++ [v]).length = vs.length + 1 by simp]; exact ixN_last) fun H1 q => k H1 (by rw [set_last] at q; exact q)
theorem g_ixLast (h : H a = some (.lst (vs ++ [v]))) (k : Q v H) : rIxL K (.ref a) (.int (-1)) H Q := g_ixL h atI_last k
inductive Al2 {α β : Type} (R : α → β → Prop) : List α → List β → Prop where
  | nil : Al2 R [] []
  | cons {x y xs ys} : R x y → Al2 R xs ys → Al2 R (x :: xs) (y :: ys)
end
section
variable {α β : Type} {R S : α → β → Prop} {xs xs2 : List α} {ys ys2 : List β} {x : α} {y : β}
theorem Al2.len : Al2 R xs ys → xs.length = ys.length := by
  intro h
  induction h with
  | nil => rfl
  | cons _ _ ih => simp [ih]
theorem Al2.imp (f : ∀ x y, R x y → S x y) : Al2 R xs ys → Al2 S xs ys := by
  intro h
  induction h with
  | nil => exact .nil
  | cons a _ ih => exact .cons (f _ _ a) ih
theorem Al2.append (h : Al2 R xs ys) (g : Al2 R xs2 ys2) : Al2 R (xs ++ xs2) (ys ++ ys2) := by
  induction h with
  | nil => exact g
  | cons a _ ih => exact .cons a ih
theorem Al2.snoc (h : Al2 R xs ys) (g : R x y) : Al2 R (xs ++ [x]) (ys ++ [y]) := h.append (.cons g .nil)
theorem Al2.get {i : Nat} (h : Al2 R xs ys) (e : ys[i]? = some y) : ∃ x, xs[i]? = some x ∧ R x y := by
  induction h generalizing i with
  | nil => cases e
  | cons a _ ih =>
    cases i with
    | zero => cases e; exact ⟨_, rfl, a⟩
    | succ i => exact ih e
theorem Al2.getL {i : Nat} (h : Al2 R xs ys) (e : xs[i]? = some x) : ∃ y, ys[i]? = some y ∧ R x y := by
  induction h generalizing i with
  | nil => cases e
  | cons a _ ih =>
    cases i with
    | zero => cases e; exact ⟨_, rfl, a⟩
    | succ i => exact ih e
theorem Al2.inv_cons (h : Al2 R xs (y :: ys)) : ∃ x xs2, xs = x :: xs2 ∧ R x y ∧ Al2 R xs2 ys := by
  cases h with
  | cons a b => exact ⟨_, _, rfl, a, b⟩
theorem Al2.inv_snoc (h : Al2 R xs (ys ++ [y])) : ∃ xs2 x, xs = xs2 ++ [x] ∧ Al2 R xs2 ys ∧ R x y := by
  induction ys generalizing xs with
  | nil =>
    obtain ⟨x, xs2, rfl, a, b⟩ := Al2.inv_cons h
    cases b
    exact ⟨[], x, rfl, .nil, a⟩
  | cons z ys ih =>
    obtain ⟨x, xs2, rfl, a, b⟩ := Al2.inv_cons h
    obtain ⟨xs3, u, rfl, c, d⟩ := ih b
    exact ⟨x :: xs3, u, rfl, .cons a c, d⟩
theorem Al2.inv_append (h : Al2 R xs (ys ++ ys2)) : ∃ a b, xs = a ++ b ∧ Al2 R a ys ∧ Al2 R b ys2 := by
  induction ys generalizing xs with
  | nil => exact ⟨[], xs, rfl, .nil, h⟩
  | cons z ys ih =>
    obtain ⟨x, xs2, rfl, a, b⟩ := Al2.inv_cons h
    obtain ⟨c, d, rfl, e, f⟩ := ih b
    exact ⟨x :: c, d, rfl, .cons a e, f⟩
theorem Al2.take (h : Al2 R xs ys) (n : Nat) : Al2 R (xs.take n) (ys.take n) := by
  induction h generalizing n with
  | nil => simp; exact .nil
  | cons a _ ih =>
    cases n with
    | zero => exact .nil
    | succ n => exact .cons a (ih n)
theorem Al2.drop (h : Al2 R xs ys) (n : Nat) : Al2 R (xs.drop n) (ys.drop n) := by
  induction h generalizing n with
  | nil => simp; exact .nil
  | cons a b ih =>
    cases n with
    | zero => exact .cons a b
    | succ n => exact ih n
end
/-- a list of values, told one by one -/
structure alA {β : Type} (S : V → β → Atom) (vs : List V) (xs : List β) (h : Hp) : Prop where
  e : Al2 (fun v x => S v x h) vs xs
theorem pst_al {β : Type} {S : V → β → Atom} (p : ∀ v x, Pst (S v x)) {vs : List V} {xs : List β} : Pst (alA S vs xs) := fun h H m ⟨e⟩ => ⟨e.imp fun v x q => p v x h H m q⟩
section
variable {K : PySem.W.Frag} {H : Hp} {F : List Atom} {Q : VK} {a : Addr} {σ : L2.St} {ns : List Nat} {t : TT} {te : TE} {β γ : Type}
theorem comp_listA {g : TG} {vs : List V} (xs : List β) (R : V → β → Atom) (S : V → γ → Atom) (pR : ∀ v x, Pst (R v x)) (pS : ∀ v x, Pst (S v x)) (pp : β → Bool) (f : β → γ) (σ0 : L2.St) (hn : xs.length ≤ 1000000) (hw : wipe σ ns = σ0) (z : Own H F) (hR : alA R vs xs H) (hl : ∀ H', Own H' F → SqL K H' a vs)
    (hs : ∀ (v : V) (x : β) (G : Atom) H' (Y : VK) (N : Hp → Prop), x ∈ xs → R v x H' → Own H' (G :: F) → (pp x = true → ∀ y H4, Own H4 (S y (f x) :: G :: F) → Y y H4) → (pp x = false → ∀ H3, Own H3 (G :: F) → N H3) → g v σ0 H' (kWp ns σ0 t te Y N))
    (hd : ∀ acc D H', Own H' (pt D (.lst acc) :: alA S acc ((xs.filter pp).map f) :: F) → Q (.ref D) H') : kLc g t te ns σ Q (Itl K a) H := by
  have hlen := hR.e.len
  refine comp_list (xs := vs) σ0 (by omega) hw (fun i acc => alA R vs xs :: alA S acc (((xs.take i).filter pp).map f) :: F) (per_own hR (pst_al pR) (per_own ⟨.nil⟩ (pst_al pS) z)) (fun i acc H' w => hl H' w.tail.tail) ?_ ?_
  · intro i v acc G H' Y N hi _ w hY hN
    have hR' := own_per (own_p1 w) (pst_al pR)
    have hS' := own_per (own_p2 w) (pst_al pS)
    obtain ⟨x, hx, hr⟩ := hR'.e.getL hi
    have hm : x ∈ xs := List.mem_of_getElem? hx
    have e2 : xs.take (i + 1) = xs.take i ++ [x] := by rw [List.take_succ, hx] <;> rfl
    have w2 : Own H' (al [G, alA R vs xs, alA S acc (((xs.take i).filter pp).map f)] :: F) := own_out (cs := [G, alA R vs xs, alA S acc (((xs.take i).filter pp).map f)]) w
    have put : ∀ H4 acc2, alA S acc2 (((xs.take (i + 1)).filter pp).map f) H4 → Own H4 (al [G, alA R vs xs, alA S acc (((xs.take i).filter pp).map f)] :: F) → Own H4 (G :: alA R vs xs :: alA S acc2 (((xs.take (i + 1)).filter pp).map f) :: F) := fun H4 acc2 q w4 =>
      Own.cons_mono (own_p2 (own_p2 (per_own q (pst_al pS) (own_in w4)))) fun _ z => Own.cons_mono z fun _ z => Own.cons_mono z fun _ z => z.tail
    refine hs v x _ H' Y N hm hr w2 (fun hp y H4 w4 => hY _ _ ?_) (fun hp H3 w3 => hN _ ?_)
    · have g1 := own_per w4 (pS y (f x))
      have g2 := own_per (own_p2 (own_in w4.tail)) (pst_al pS)
      refine put H4 _ ⟨?_⟩ w4.tail
      rw [e2, List.filter_append, List.map_append]
      show Al2 _ _ (_ ++ (List.filter pp [x]).map f)
      rw [List.filter_cons_of_pos hp]
      exact g2.e.snoc g1
    · have g2 := own_per (own_p2 (own_in w3)) (pst_al pS)
      refine put H3 _ ⟨?_⟩ w3
      rw [e2, List.filter_append, List.map_append]
      show Al2 _ _ (_ ++ (List.filter pp [x]).map f)
      rw [List.filter_cons_of_neg (by rw [hp]; exact Bool.false_ne_true)]
      show Al2 _ _ (_ ++ [])
      rw [List.append_nil]
      exact g2.e
  · intro acc D H' _ w
    rw [hlen, List.take_length] at w
    exact hd acc D H' (Own.cons_mono w fun _ z => z.tail)
end
/-- an item: a byte, or a mark of lost bytes -/
inductive Itm where
  | b (n : Int)
  | lost (n : Int)
  deriving DecidableEq
instance : Inhabited Itm := ⟨.b 0⟩
def Itm.byte : Itm → Bool
  | .b _ => true
  | .lost _ => false
def nb (xs : List Itm) : Nat := xs.countP Itm.byte
structure itA (w : V) (x : Itm) (h : Hp) : Prop where
  e : match x with
    | .b n => w = .int n
    | .lost n => ∃ q, w = .ref q ∧ h q = some (.tup [.str "lost", .int n])
structure rowA (v : V) (x : Itm × Int) (h : Hp) : Prop where
  e : ∃ r w, v = .ref r ∧ h r = some (.tup [w, .int x.2]) ∧ itA w x.1 h
abbrev itsA := alA itA
abbrev rowsA := alA rowA
theorem pst_it {w : V} {x : Itm} : Pst (itA w x) := fun h H m ⟨e⟩ => ⟨by
  cases x with
  | b n => exact e
  | lost n =>
    obtain ⟨q, e1, e2⟩ := e
    exact ⟨q, e1, m q _ rfl e2⟩⟩
theorem pst_row {w : V} {x : Itm × Int} : Pst (rowA w x) := fun h H m ⟨r, v, e1, e2, e3⟩ => ⟨r, v, e1, m r _ rfl e2, pst_it h H m e3⟩
theorem pst_its {vs : List V} {xs : List Itm} : Pst (itsA vs xs) := pst_al fun _ _ => pst_it
theorem pst_rows {vs : List V} {xs : List (Itm × Int)} : Pst (rowsA vs xs) := pst_al fun _ _ => pst_row
theorem it_b {n : Int} {h : Hp} : itA (.int n) (.b n) h := ⟨rfl⟩
theorem it_lost {n : Int} {q : Addr} {h : Hp} (e : h q = some (.tup [.str "lost", .int n])) : itA (.ref q) (.lost n) h := ⟨q, rfl, e⟩
theorem bl_of {Q : VK} {b c : Bool} {H : Hp} (e : b = c) (k : Q (.bl b) H) : Q (.bl c) H := by
  rw [← e]
  exact k
end SL
end

section
set_option Elab.async false
set_option linter.all false
set_option maxRecDepth 100000
/-! ## SL10: many things of one kind, each at its address -/
namespace SL
open PySem PySem.Spec L2
section
variable {α : Type} {S : Addr → α → Atom} {r : Addr} {rs rs2 : List Addr} {x : α} {xs xs2 : List α} {F : List Atom} {H : Hp}
structure bgA {α : Type} (S : Addr → α → Atom) (rs : List Addr) (xs : List α) (h : Hp) : Prop where
  e : al (List.zipWith S rs xs) h
  l : rs.length = xs.length
theorem own_drop {P : Atom} (x : Own H (P :: F)) : Own H F := x.tail
theorem bg_len (w : Own H (bgA S rs xs :: F)) : rs.length = xs.length := by
  obtain ⟨h, q, _⟩ := w.at1
  exact q.l
theorem bg_nil (w : Own H F) : Own H (bgA S [] [] :: F) := (own_out (cs := []) w).mono1 fun _ q => ⟨q, rfl⟩
theorem bg_to (w : Own H (bgA S rs xs :: F)) : Own H (List.zipWith S rs xs ++ F) := own_in (w.mono1 fun _ q => q.e)
theorem bg_fr (l : rs.length = xs.length) (w : Own H (List.zipWith S rs xs ++ F)) : Own H (bgA S rs xs :: F) := (own_out w).mono1 fun _ q => ⟨q, l⟩
theorem bg_cons (w : Own H (S r x :: bgA S rs xs :: F)) : Own H (bgA S (r :: rs) (x :: xs) :: F) :=
  bg_fr (by rw [List.length_cons, List.length_cons, bg_len (own_p1 w)]) (Own.cons_mono w fun _ z => bg_to z)
theorem bg_uncons (w : Own H (bgA S (r :: rs) (x :: xs) :: F)) : Own H (S r x :: bgA S rs xs :: F) := by
  have l := bg_len w
  rw [List.length_cons, List.length_cons] at l
  exact Own.cons_mono (bg_to w) fun _ z => bg_fr (Nat.succ.inj l) z
theorem bg_app : ∀ {rs : List Addr} {xs : List α} {H : Hp}, Own H (bgA S rs xs :: bgA S rs2 xs2 :: F) → Own H (bgA S (rs ++ rs2) (xs ++ xs2) :: F)
  | [], [], _, w => w.tail
  | [], _ :: _, _, w => nomatch bg_len w
  | _ :: _, [], _, w => nomatch bg_len w
  | _ :: _, _ :: _, _, w => bg_cons (Own.cons_mono (bg_uncons w) fun _ z => bg_app z)
theorem bg_split : ∀ {rs : List Addr} {xs : List α} {H : Hp}, rs.length = xs.length → Own H (bgA S (rs ++ rs2) (xs ++ xs2) :: F) → Own H (bgA S rs xs :: bgA S rs2 xs2 :: F)
  | [], [], _, _, w => bg_nil w
  | [], _ :: _, _, l, _ => nomatch l
  | _ :: _, [], _, l, _ => nomatch l
  | _ :: _, _ :: _, _, l, w => bg_cons (Own.cons_mono (bg_uncons w) fun _ z => bg_split (Nat.succ.inj l) z)
theorem bg_one (w : Own H (S r x :: F)) : Own H (bgA S [r] [x] :: F) := bg_cons (Own.cons_mono w fun _ z => bg_nil z)
theorem bg_snoc (w : Own H (S r x :: bgA S rs xs :: F)) : Own H (bgA S (rs ++ [r]) (xs ++ [x]) :: F) := bg_app (own_p1 (bg_one w))
theorem bg_unsnoc (w : Own H (bgA S (rs ++ [r]) (xs ++ [x]) :: F)) : Own H (S r x :: bgA S rs xs :: F) := by
  have l := bg_len w
  rw [List.length_append, List.length_append] at l
  have l2 : rs.length = xs.length := by simpa using l
  exact Own.cons_mono (bg_uncons (own_p1 (bg_split l2 w))) fun _ z => z.tail
theorem bg_unfocus {rs1 : List Addr} {xs1 : List α} (w : Own H (S r x :: bgA S rs1 xs1 :: bgA S rs2 xs2 :: F)) : Own H (bgA S (rs1 ++ r :: rs2) (xs1 ++ x :: xs2) :: F) :=
  bg_app (own_p1 (bg_cons (own_p1 (own_p2 w))))
theorem split_at {β : Type} {xs : List β} {x : β} {i : Nat} (h : xs[i]? = some x) : xs = xs.take i ++ x :: xs.drop (i + 1) := by
  obtain ⟨hlt, he⟩ := List.getElem?_eq_some_iff.mp h
  rw [← he, ← List.drop_eq_getElem_cons hlt, List.take_append_drop]
theorem bg_focus {i : Nat} (w : Own H (bgA S rs xs :: F)) (h : xs[i]? = some x) : ∃ r, rs[i]? = some r ∧ Own H (S r x :: bgA S (rs.take i) (xs.take i) :: bgA S (rs.drop (i + 1)) (xs.drop (i + 1)) :: F) := by
  have l := bg_len w
  obtain ⟨hlt, he⟩ := List.getElem?_eq_some_iff.mp h
  have h2 : rs[i]? = some rs[i] := List.getElem?_eq_getElem (by omega)
  refine ⟨rs[i], h2, ?_⟩
  rw [split_at h, split_at h2] at w
  have w2 := bg_split (by rw [List.length_take, List.length_take]; omega) w
  exact bg_uncons (own_p1 w2) |> fun z => Own.cons_mono z fun _ z => z.swap
theorem bg_refocus {i : Nat} {y : α} (hr : rs[i]? = some r) (hx : i < xs.length) (w : Own H (S r y :: bgA S (rs.take i) (xs.take i) :: bgA S (rs.drop (i + 1)) (xs.drop (i + 1)) :: F)) : Own H (bgA S rs (xs.set i y) :: F) := by
  have e1 := split_at hr
  have e2 : xs.set i y = xs.take i ++ y :: xs.drop (i + 1) := List.set_eq_take_append_cons_drop .. |>.trans (if_pos hx)
  rw [e2]
  conv =>
    arg 2
    arg 1
    arg 2
    rw [e1]
  exact bg_unfocus w
/-- what the thing at i tells, the heap as it is -/
theorem bg_get {i : Nat} (w : Own H (bgA S rs xs :: F)) (h : xs[i]? = some x) : ∃ r, rs[i]? = some r ∧ ∃ G, Own H (S r x :: G) := by
  obtain ⟨r, h2, w2⟩ := bg_focus w h
  exact ⟨r, h2, _, w2⟩
end
end SL
end

section
set_option Elab.async false
set_option linter.all false
set_option maxRecDepth 100000
/-! ## SL11: items, pairs, texts, None as data -/
namespace SL
open PySem PySem.Spec L2
theorem lost_ok : PyData.canLay0 (.str "lost") = true := by decide +kernel
def Itm.dat : Itm → PyData
  | .b n => .int n
  | .lost n => .tuple [.str "lost", .int n]
instance : Dat Itm where
  d := Itm.dat
  n := 1
  lay := fun x => by
    cases x with
    | b n => rfl
    | lost n =>
      show (PyData.canLay0 (.str "lost") && (PyData.canLay0 (.int n) && true)) = true
      rw [lost_ok] <;> rfl
  dep := fun x => by
    cases x with
    | b n => exact Nat.zero_le _
    | lost n => exact Nat.le_refl _
  inj := fun x y h => by
    cases x with
    | b n =>
      cases y with
      | b m =>
        have h2 : (n == m) = true := h
        rw [eq_of_beq h2]
      | lost m => cases h
    | lost n =>
      cases y with
      | b m => cases h
      | lost m =>
        have h2 : (PyData.eqv (.str "lost") (.str "lost") && (PyData.eqv (.int n) (.int m) && PyData.eqvAll [] [])) = true := h
        have h3 := (Bool.and_eq_true_iff.mp (Bool.and_eq_true_iff.mp h2).2).1
        have h4 : (n == m) = true := h3
        rw [eq_of_beq h4]
section
variable {K : PySem.W.Frag} {H : Hp} {v : V} {x : Itm} {vs : List V} {xs : List Itm} {a : Addr}
theorem is_it (h : itA v x H) : Is K H v x := by
  cases x with
  | b n =>
    rw [show v = .int n from h.e]
    exact .int n
  | lost n =>
    obtain ⟨q, rfl, e⟩ := h.e
    exact .tup (SqT.of e) (.cons (.str _) (.cons (.int _) .nil))
theorem dpa_it (h : Al2 (fun v x => itA v x H) vs xs) : DpAll K H vs (xs.map Itm.dat) := by
  induction h with
  | nil => exact .nil
  | cons a _ ih => exact .cons (is_it a) ih
theorem is_its (e : H a = some (.lst vs)) (h : itsA vs xs H) : Is K H (.ref a) xs := .lst (SqL.of e) (dpa_it h.e)
end
/-- pairs -/
instance {α β : Type} [D : Dat α] [E : Dat β] : Dat (α × β) where
  d := fun x => .tuple [D.d x.1, E.d x.2]
  n := max D.n E.n + 1
  lay := fun x => by
    show ((D.d x.1).canLay0 && ((E.d x.2).canLay0 && true)) = true
    rw [D.lay, E.lay] <;> rfl
  dep := fun x => by
    show max (D.d x.1).depth (max (E.d x.2).depth 0) + 1 ≤ _
    have h1 := D.dep x.1
    have h2 := E.dep x.2
    omega
  inj := fun x y h => by
    have h2 : (PyData.eqv (D.d x.1) (D.d y.1) && (PyData.eqv (E.d x.2) (E.d y.2) && true)) = true := h
    obtain ⟨h3, h4⟩ := Bool.and_eq_true_iff.mp h2
    have e1 := D.inj _ _ h3
    have e2 := E.inj _ _ (Bool.and_eq_true_iff.mp h4).1
    exact Prod.ext e1 e2
/-- three in a tuple -/
structure Tri (α β γ : Type) where
  a : α
  b : β
  c : γ
  deriving DecidableEq
instance {α β γ : Type} [D : Dat α] [E : Dat β] [G : Dat γ] : Dat (Tri α β γ) where
  d := fun x => .tuple [D.d x.a, E.d x.b, G.d x.c]
  n := max D.n (max E.n G.n) + 1
  lay := fun x => by
    show ((D.d x.a).canLay0 && ((E.d x.b).canLay0 && ((G.d x.c).canLay0 && true))) = true
    rw [D.lay, E.lay, G.lay] <;> rfl
  dep := fun x => by
    show max (D.d x.a).depth (max (E.d x.b).depth (max (G.d x.c).depth 0)) + 1 ≤ _
    have h1 := D.dep x.a
    have h2 := E.dep x.b
    have h3 := G.dep x.c
    omega
  inj := fun x y h => by
    have h2 : (PyData.eqv (D.d x.a) (D.d y.a) && (PyData.eqv (E.d x.b) (E.d y.b) && (PyData.eqv (G.d x.c) (G.d y.c) && true))) = true := h
    obtain ⟨h3, h4⟩ := Bool.and_eq_true_iff.mp h2
    obtain ⟨h5, h6⟩ := Bool.and_eq_true_iff.mp h4
    have e1 := D.inj _ _ h3
    have e2 := E.inj _ _ h5
    have e3 := G.inj _ _ (Bool.and_eq_true_iff.mp h6).1
    cases x
    cases y
    cases e1
    cases e2
    cases e3
    rfl
/-- a list display, one item set -/
class SetI (xs : List V) (i : Int) (y : V) (zs : outParam (List V)) : Prop where
  h : ∃ j, ixN xs.length i = some j ∧ xs.set j y = zs
instance {a0 y : V} {xs : List V} : SetI (a0 :: xs) 0 y (y :: xs) := ⟨0, by rw [ixN_of ⟨by decide, by simp only [List.length_cons]; omega⟩] <;> rfl, rfl⟩
theorem atI_0c {α : Type} {a0 : α} {xs : List α} : atI (a0 :: xs) 0 = some a0 := atI_nat (j := 0) rfl
instance {a0 a1 y : V} {xs : List V} : SetI (a0 :: a1 :: xs) 1 y (a0 :: y :: xs) := ⟨1, by rw [ixN_of ⟨by decide, by simp only [List.length_cons]; omega⟩] <;> rfl, rfl⟩
theorem atI_1c {α : Type} {a0 a1 : α} {xs : List α} : atI (a0 :: a1 :: xs) 1 = some a1 := atI_nat (j := 1) rfl
instance {a0 a1 a2 y : V} {xs : List V} : SetI (a0 :: a1 :: a2 :: xs) 2 y (a0 :: a1 :: y :: xs) := ⟨2, by rw [ixN_of ⟨by decide, by simp only [List.length_cons]; omega⟩] <;> rfl, rfl⟩
theorem atI_2c {α : Type} {a0 a1 a2 : α} {xs : List α} : atI (a0 :: a1 :: a2 :: xs) 2 = some a2 := atI_nat (j := 2) rfl
instance {a0 a1 a2 a3 y : V} {xs : List V} : SetI (a0 :: a1 :: a2 :: a3 :: xs) 3 y (a0 :: a1 :: a2 :: y :: xs) := ⟨3, by rw [ixN_of ⟨by decide, by simp only [List.length_cons]; omega⟩] <;> rfl, rfl⟩
theorem atI_3c {α : Type} {a0 a1 a2 a3 : α} {xs : List α} : atI (a0 :: a1 :: a2 :: a3 :: xs) 3 = some a3 := atI_nat (j := 3) rfl
instance {a0 a1 a2 a3 a4 y : V} {xs : List V} : SetI (a0 :: a1 :: a2 :: a3 :: a4 :: xs) 4 y (a0 :: a1 :: a2 :: a3 :: y :: xs) := ⟨4, by rw [ixN_of ⟨by decide, by simp only [List.length_cons]; omega⟩] <;> rfl, rfl⟩
theorem atI_4c {α : Type} {a0 a1 a2 a3 a4 : α} {xs : List α} : atI (a0 :: a1 :: a2 :: a3 :: a4 :: xs) 4 = some a4 := atI_nat (j := 4) rfl
instance {a0 a1 a2 a3 a4 a5 y : V} {xs : List V} : SetI (a0 :: a1 :: a2 :: a3 :: a4 :: a5 :: xs) 5 y (a0 :: a1 :: a2 :: a3 :: a4 :: y :: xs) := ⟨5, by rw [ixN_of ⟨by decide, by simp only [List.length_cons]; omega⟩] <;> rfl, rfl⟩
theorem atI_5c {α : Type} {a0 a1 a2 a3 a4 a5 : α} {xs : List α} : atI (a0 :: a1 :: a2 :: a3 :: a4 :: a5 :: xs) 5 = some a5 := atI_nat (j := 5) rfl
instance {a0 a1 a2 a3 a4 a5 a6 y : V} {xs : List V} : SetI (a0 :: a1 :: a2 :: a3 :: a4 :: a5 :: a6 :: xs) 6 y (a0 :: a1 :: a2 :: a3 :: a4 :: a5 :: y :: xs) := ⟨6, by rw [ixN_of ⟨by decide, by simp only [List.length_cons]; omega⟩] <;> rfl, rfl⟩
theorem atI_6c {α : Type} {a0 a1 a2 a3 a4 a5 a6 : α} {xs : List α} : atI (a0 :: a1 :: a2 :: a3 :: a4 :: a5 :: a6 :: xs) 6 = some a6 := atI_nat (j := 6) rfl
instance {a0 a1 a2 a3 a4 a5 a6 a7 y : V} {xs : List V} : SetI (a0 :: a1 :: a2 :: a3 :: a4 :: a5 :: a6 :: a7 :: xs) 7 y (a0 :: a1 :: a2 :: a3 :: a4 :: a5 :: a6 :: y :: xs) := ⟨7, by rw [ixN_of ⟨by decide, by simp only [List.length_cons]; omega⟩] <;> rfl, rfl⟩
theorem atI_7c {α : Type} {a0 a1 a2 a3 a4 a5 a6 a7 : α} {xs : List α} : atI (a0 :: a1 :: a2 :: a3 :: a4 :: a5 :: a6 :: a7 :: xs) 7 = some a7 := atI_nat (j := 7) rfl
theorem g_setC {a : Addr} {xs zs : List V} {y : V} {i : Int} {F : List Atom} {H : Hp} {P : L2.St → Hp → Prop} {σ : L2.St} (w : Own H (pt a (.lst xs) :: F)) [s : SetI xs i y zs] (k : ∀ H1, Own H1 (pt a (.lst zs) :: F) → P σ H1) : kSu2 y rSetL (.ref a) σ P (.int i) H := by
  obtain ⟨j, e, h⟩ := s.h
  exact g_setL w e fun H1 q => k H1 (by rw [← h]; exact q)
theorem own_p13 {a0 a1 a2 a3 a4 a5 a6 a7 a8 a9 a10 a11 a12 x : Atom} {F : List Atom} {H : Hp} (X : Own H (a0 :: a1 :: a2 :: a3 :: a4 :: a5 :: a6 :: a7 :: a8 :: a9 :: a10 :: a11 :: a12 :: x :: F)) : Own H (x :: a0 :: a1 :: a2 :: a3 :: a4 :: a5 :: a6 :: a7 :: a8 :: a9 :: a10 :: a11 :: a12 :: F) := (Own.cons_mono X fun _ z => own_p12 z).swap
theorem own_p14 {a0 a1 a2 a3 a4 a5 a6 a7 a8 a9 a10 a11 a12 a13 x : Atom} {F : List Atom} {H : Hp} (X : Own H (a0 :: a1 :: a2 :: a3 :: a4 :: a5 :: a6 :: a7 :: a8 :: a9 :: a10 :: a11 :: a12 :: a13 :: x :: F)) : Own H (x :: a0 :: a1 :: a2 :: a3 :: a4 :: a5 :: a6 :: a7 :: a8 :: a9 :: a10 :: a11 :: a12 :: a13 :: F) := (Own.cons_mono X fun _ z => own_p13 z).swap
theorem own_p15 {a0 a1 a2 a3 a4 a5 a6 a7 a8 a9 a10 a11 a12 a13 a14 x : Atom} {F : List Atom} {H : Hp} (X : Own H (a0 :: a1 :: a2 :: a3 :: a4 :: a5 :: a6 :: a7 :: a8 :: a9 :: a10 :: a11 :: a12 :: a13 :: a14 :: x :: F)) : Own H (x :: a0 :: a1 :: a2 :: a3 :: a4 :: a5 :: a6 :: a7 :: a8 :: a9 :: a10 :: a11 :: a12 :: a13 :: a14 :: F) := (Own.cons_mono X fun _ z => own_p14 z).swap
theorem own_p16 {a0 a1 a2 a3 a4 a5 a6 a7 a8 a9 a10 a11 a12 a13 a14 a15 x : Atom} {F : List Atom} {H : Hp} (X : Own H (a0 :: a1 :: a2 :: a3 :: a4 :: a5 :: a6 :: a7 :: a8 :: a9 :: a10 :: a11 :: a12 :: a13 :: a14 :: a15 :: x :: F)) : Own H (x :: a0 :: a1 :: a2 :: a3 :: a4 :: a5 :: a6 :: a7 :: a8 :: a9 :: a10 :: a11 :: a12 :: a13 :: a14 :: a15 :: F) := (Own.cons_mono X fun _ z => own_p15 z).swap
theorem own_p17 {a0 a1 a2 a3 a4 a5 a6 a7 a8 a9 a10 a11 a12 a13 a14 a15 a16 x : Atom} {F : List Atom} {H : Hp} (X : Own H (a0 :: a1 :: a2 :: a3 :: a4 :: a5 :: a6 :: a7 :: a8 :: a9 :: a10 :: a11 :: a12 :: a13 :: a14 :: a15 :: a16 :: x :: F)) : Own H (x :: a0 :: a1 :: a2 :: a3 :: a4 :: a5 :: a6 :: a7 :: a8 :: a9 :: a10 :: a11 :: a12 :: a13 :: a14 :: a15 :: a16 :: F) := (Own.cons_mono X fun _ z => own_p16 z).swap
theorem own_p18 {a0 a1 a2 a3 a4 a5 a6 a7 a8 a9 a10 a11 a12 a13 a14 a15 a16 a17 x : Atom} {F : List Atom} {H : Hp} (X : Own H (a0 :: a1 :: a2 :: a3 :: a4 :: a5 :: a6 :: a7 :: a8 :: a9 :: a10 :: a11 :: a12 :: a13 :: a14 :: a15 :: a16 :: a17 :: x :: F)) : Own H (x :: a0 :: a1 :: a2 :: a3 :: a4 :: a5 :: a6 :: a7 :: a8 :: a9 :: a10 :: a11 :: a12 :: a13 :: a14 :: a15 :: a16 :: a17 :: F) := (Own.cons_mono X fun _ z => own_p17 z).swap
theorem own_p19 {a0 a1 a2 a3 a4 a5 a6 a7 a8 a9 a10 a11 a12 a13 a14 a15 a16 a17 a18 x : Atom} {F : List Atom} {H : Hp} (X : Own H (a0 :: a1 :: a2 :: a3 :: a4 :: a5 :: a6 :: a7 :: a8 :: a9 :: a10 :: a11 :: a12 :: a13 :: a14 :: a15 :: a16 :: a17 :: a18 :: x :: F)) : Own H (x :: a0 :: a1 :: a2 :: a3 :: a4 :: a5 :: a6 :: a7 :: a8 :: a9 :: a10 :: a11 :: a12 :: a13 :: a14 :: a15 :: a16 :: a17 :: a18 :: F) := (Own.cons_mono X fun _ z => own_p18 z).swap
end SL
end

section
set_option Elab.async false
set_option linter.all false
set_option maxRecDepth 100000
/-! ## SL12: slices of lists of one kind -/
namespace SL
open PySem PySem.Spec L2
/-- what is not reached -/
def tNev : TE := fun _ _ _ => False
theorem pe_nev {X : Cx} {e : Expr} : PE X e tNev := ⟨fun _ _ _ _ _ _ h => h.elim⟩
def cut {α : Type} (xs : List α) (lo hi : Option Int) : List α := (xs.drop (HT.sIx xs.length 0 lo)).take (HT.sIx xs.length xs.length hi - HT.sIx xs.length 0 lo)
theorem cutV_map {α : Type} {g : α → V} {xs : List α} {lo hi : Option Int} : cutV (xs.map g) lo hi = (cut xs lo hi).map g := by
  unfold cutV cut
  rw [List.length_map, List.map_take, List.map_drop]
theorem sIx_pos {n d : Nat} {i : Int} (h : 0 ≤ i) : HT.sIx n d (some i) = min i.toNat n := by
  show (if i < 0 then (i + (n : Int)).toNat else min i.toNat n) = _
  rw [if_neg (by omega)]
theorem cut_drop {α : Type} {xs : List α} {i : Int} (h : 0 ≤ i) : cut xs (some i) none = xs.drop i.toNat := by
  unfold cut
  rw [sIx_pos h, HT.sIx_none]
  by_cases q : i.toNat ≤ xs.length
  · rw [Nat.min_eq_left q, List.take_of_length_le (by rw [List.length_drop]; omega)]
  · rw [Nat.min_eq_right (by omega), List.drop_eq_nil_of_le (Nat.le_refl _), List.drop_eq_nil_of_le (by omega), List.take_nil]
theorem cut_take {α : Type} {xs : List α} {i : Int} (h : 0 ≤ i) : cut xs none (some i) = xs.take i.toNat := by
  unfold cut
  rw [sIx_pos h, HT.sIx_none, List.drop_zero, Nat.sub_zero]
  by_cases q : i.toNat ≤ xs.length
  · rw [Nat.min_eq_left q]
  · rw [Nat.min_eq_right (by omega), List.take_of_length_le (Nat.le_refl _), List.take_of_length_le (by omega)]
theorem cut_butlast {α : Type} {xs : List α} : cut xs none (some (-1)) = xs.dropLast := by
  unfold cut
  rw [HT.sIx_none, List.drop_zero, Nat.sub_zero]
  have e : HT.sIx xs.length xs.length (some (-1)) = xs.length - 1 := by
    show (if (-1 : Int) < 0 then ((-1 : Int) + (xs.length : Int)).toNat else min (-1 : Int).toNat xs.length) = _
    rw [if_pos (by decide)]
    omega
  rw [e, List.dropLast_eq_take]
section
variable {K : PySem.W.Frag} {H : Hp} {F : List Atom} {Q : VK} {a : Addr} {α : Type} {g : α → V} {xs : List α} {i : Int}
theorem g_slD (h : H a = some (.lst (xs.map g))) (z : Own H F) (hp : 0 ≤ i) (k : ∀ q H1, Own H1 (pt q (.lst ((xs.drop i.toNat).map g)) :: F) → Q (.ref q) H1) : rSlL K (.ref a) (some i) none H Q :=
  g_slice h z fun q H1 w => k q H1 (by rw [cutV_map, cut_drop hp] at w; exact w)
theorem g_slT (h : H a = some (.lst (xs.map g))) (z : Own H F) (hp : 0 ≤ i) (k : ∀ q H1, Own H1 (pt q (.lst ((xs.take i.toNat).map g)) :: F) → Q (.ref q) H1) : rSlL K (.ref a) none (some i) H Q :=
  g_slice h z fun q H1 w => k q H1 (by rw [cutV_map, cut_take hp] at w; exact w)
theorem g_slB (h : H a = some (.lst (xs.map g))) (z : Own H F) (k : ∀ q H1, Own H1 (pt q (.lst (xs.dropLast.map g)) :: F) → Q (.ref q) H1) : rSlL K (.ref a) none (some (-1)) H Q :=
  g_slice h z fun q H1 w => k q H1 (by rw [cutV_map, cut_butlast] at w; exact w)
variable {vs : List V}
theorem g_slDv (h : H a = some (.lst vs)) (z : Own H F) (hp : 0 ≤ i) (k : ∀ q H1, Own H1 (pt q (.lst (vs.drop i.toNat)) :: F) → Q (.ref q) H1) : rSlL K (.ref a) (some i) none H Q :=
  g_slice h z fun q H1 w => k q H1 (by rw [show cutV vs (some i) none = cut vs (some i) none from rfl, cut_drop hp] at w; exact w)
theorem g_slTv (h : H a = some (.lst vs)) (z : Own H F) (hp : 0 ≤ i) (k : ∀ q H1, Own H1 (pt q (.lst (vs.take i.toNat)) :: F) → Q (.ref q) H1) : rSlL K (.ref a) none (some i) H Q :=
  g_slice h z fun q H1 w => k q H1 (by rw [show cutV vs none (some i) = cut vs none (some i) from rfl, cut_take hp] at w; exact w)
end
section
variable {K : PySem.W.Frag} {H : Hp} {F : List Atom} {Q : VK} {σ : L2.St} {vs : List Nat} {t : TT} {te : TE} {β : Type}
/-- a comprehension over a range, the items drawn: each keeps P -/
theorem comp_rangeD {n : Nat} {g : TG} (gy : β → V) (P : β → Prop) (σ0 : L2.St) (hn : n ≤ 1000000) (hw : wipe σ vs = σ0) (z : Own H F)
    (hs : ∀ (i : Nat) (G : Atom) H' (Y : VK) (N : Hp → Prop), i < n → Own H' (G :: F) → (∀ y H4, P y → Own H4 (G :: F) → Y (gy y) H4) → g (.int (i : Int)) σ0 H' (kWp vs σ0 t te Y N))
    (hd : ∀ (ys : List β) D H', ys.length = n → (∀ y ∈ ys, P y) → Own H' (pt D (.lst (ys.map gy)) :: F) → Q (.ref D) H') : kLc g t te vs σ Q (Itr 0 n) H := by
  refine comp_range σ0 hn hw (fun i acc => pu (∃ ys : List β, acc = ys.map gy ∧ ys.length = i ∧ ∀ y ∈ ys, P y) :: F) (own_put ⟨[], rfl, rfl, fun _ h => nomatch h⟩ z) ?_ ?_
  · intro i acc G H' Y N hi _ w hY hN
    obtain ⟨⟨ys, e, hl, hp⟩, w⟩ := own_pu (own_p1 w)
    refine hs i G H' Y N hi w fun y H4 py w4 => hY _ _ (own_p1 (own_put ⟨ys ++ [y], ?_, ?_, ?_⟩ w4))
    · rw [e, List.map_append] <;> rfl
    · rw [List.length_append, hl] <;> rfl
    · intro x hx
      rcases List.mem_append.mp hx with m | m
      · exact hp x m
      · rw [List.mem_singleton.mp m]
        exact py
  · intro acc D H' _ w
    obtain ⟨⟨ys, e, hl, hp⟩, w⟩ := own_pu (own_p1 w)
    subst e
    exact hd ys D H' hl hp w
end
section
variable {α : Type} {S : Addr → α → Atom} {rs : List Addr} {xs : List α} {F : List Atom} {H : Hp}
theorem bg_at {i : Nat} {v : V} (w : Own H (bgA S rs xs :: F)) (h : (rs.map V.ref)[i]? = some v) : ∃ r x, v = .ref r ∧ rs[i]? = some r ∧ xs[i]? = some x ∧ Own H (S r x :: bgA S (rs.take i) (xs.take i) :: bgA S (rs.drop (i + 1)) (xs.drop (i + 1)) :: F) := by
  have hl := bg_len w
  have hi : i < rs.length := by
    have := (List.getElem?_eq_some_iff.mp h).1
    rwa [List.length_map] at this
  have hx : xs[i]? = some xs[i] := List.getElem?_eq_getElem (by omega)
  obtain ⟨r, hr, w2⟩ := bg_focus w hx
  rw [List.getElem?_map, hr] at h
  exact ⟨r, _, (Option.some.inj h).symm, hr, hx, w2⟩
theorem take_succ_at {i : Nat} {x : α} (h : xs[i]? = some x) : xs.take (i + 1) = xs.take i ++ [x] := by rw [List.take_succ, h] <;> rfl
theorem set_self {i : Nat} {x : α} (h : xs[i]? = some x) : xs.set i x = xs := by
  obtain ⟨hi, e⟩ := List.getElem?_eq_some_iff.mp h
  rw [← e, List.set_getElem_self]
/-- the thing at i as it was -/
theorem bg_back {i : Nat} {r : Addr} {x : α} (hr : rs[i]? = some r) (hx : xs[i]? = some x) (w : Own H (S r x :: bgA S (rs.take i) (xs.take i) :: bgA S (rs.drop (i + 1)) (xs.drop (i + 1)) :: F)) : Own H (bgA S rs xs :: F) := by
  have h := bg_refocus hr (List.getElem?_eq_some_iff.mp hx).1 w
  rwa [set_self hx] at h
variable {K : PySem.W.Frag} {Q : VK} {σ : L2.St} {vs : List Nat} {t : TT} {te : TE} {l : Addr}
/-- a comprehension over things that stand, one by one; plain items -/
theorem comp_bgP {g : TG} (pp : α → Bool) (f : α → V) (σ0 : L2.St) (hn : xs.length ≤ 1000000) (hw : wipe σ vs = σ0) (z : Own H (pt l (.lst (rs.map V.ref)) :: bgA S rs xs :: F))
    (hs : ∀ (r : Addr) (x : α) (G : Atom) H' (Y : VK) (N : Hp → Prop), x ∈ xs → Own H' (S r x :: G :: F) → (pp x = true → ∀ H4, Own H4 (S r x :: G :: F) → Y (f x) H4) → (pp x = false → ∀ H3, Own H3 (S r x :: G :: F) → N H3) → g (.ref r) σ0 H' (kWp vs σ0 t te Y N))
    (hd : ∀ D H', Own H' (pt D (.lst ((xs.filter pp).map f)) :: pt l (.lst (rs.map V.ref)) :: bgA S rs xs :: F) → Q (.ref D) H') : kLc g t te vs σ Q (Itl K l) H := by
  have hl := bg_len (own_p1 z)
  refine comp_list (xs := rs.map V.ref) σ0 (by rw [List.length_map]; omega) hw (fun i acc => pu (acc = ((xs.take i).filter pp).map f) :: pt l (.lst (rs.map V.ref)) :: bgA S rs xs :: F) (own_put rfl z) (fun i acc H' w => SqL.of (own_pt (own_p1 w))) ?_ ?_
  · intro i v acc G H' Y N hi _ w hY hN
    obtain ⟨e1, w⟩ := own_pu (own_p1 w)
    obtain ⟨r, x, rfl, hr, hx, w2⟩ := bg_at (own_p2 w) hi
    have w3 := Own.cons_mono w2 fun _ z => own_out (cs := [bgA S (rs.take i) (xs.take i), bgA S (rs.drop (i + 1)) (xs.drop (i + 1)), G, pt l (.lst (rs.map V.ref))]) z
    have fin : ∀ H4, Own H4 (S r x :: al [bgA S (rs.take i) (xs.take i), bgA S (rs.drop (i + 1)) (xs.drop (i + 1)), G, pt l (.lst (rs.map V.ref))] :: F) → Own H4 (G :: pt l (.lst (rs.map V.ref)) :: bgA S rs xs :: F) := fun H4 w4 => own_p2 (own_p2 (bg_back hr hx (Own.cons_mono w4 fun _ z => own_in z)))
    refine hs r x _ H' Y N (List.mem_of_getElem? hx) w3 (fun hp H4 w4 => hY _ _ (own_p1 (own_put ?_ (fin H4 w4)))) (fun hp H3 w4 => hN _ (own_p1 (own_put ?_ (fin H3 w4))))
    · rw [e1, take_succ_at hx, List.filter_append, List.map_append]
      show _ = _ ++ (List.filter pp [x]).map f
      rw [List.filter_cons_of_pos hp] <;> rfl
    · rw [e1, take_succ_at hx, List.filter_append, List.map_append]
      show _ = _ ++ (List.filter pp [x]).map f
      rw [List.filter_cons_of_neg (by rw [hp]; exact Bool.false_ne_true)]
      show _ = _ ++ []
      rw [List.append_nil]
  · intro acc D H' _ w
    obtain ⟨e, w⟩ := own_pu (own_p1 w)
    rw [e, List.length_map, hl, List.take_length] at w
    exact hd D H' w
end
end SL
end

section
set_option Elab.async false
set_option linter.all false
set_option maxRecDepth 100000
/-! ## SL13: texts compared; loops over things -/
namespace SL
open PySem PySem.Spec L2
section
variable {K : PySem.W.Frag} {H : Hp} {Q : VK} {x y : Str} {G' : Prop}
theorem str_dec : decide (V.str x = V.str y) = decide (x = y) := by
  by_cases q : x = y
  · rw [decide_eq_true q, decide_eq_true (congrArg V.str q)]
  · rw [decide_eq_false q, decide_eq_false (fun z => q (V.str.inj z))]
instance [q : Rd (Q (.bl (decide (x = y))) H) G'] : Rd1 (rEq (.str x) (.str y) H Q) G' := ⟨fun z => ⟨rfl, by rw [str_dec]; exact q.h z⟩⟩
instance [q : Rd (Q (.bl (!decide (x = y))) H) G'] : Rd1 (rNe (.str x) (.str y) H Q) G' := ⟨fun z => ⟨rfl, by rw [str_dec]; exact q.h z⟩⟩
end
section
variable {K : PySem.W.Frag} {H : Hp} {Q : VK} {a : Addr} {α : Type} {g : α → V} {x y : α} {xs : List α}
theorem g_ixM0 (h : H a = some (.lst ((x :: xs).map g))) (k : Q (g x) H) : rIxL K (.ref a) (.int 0) H Q := g_ixL h atI_0c k
theorem g_ixM1 (h : H a = some (.lst ((x :: y :: xs).map g))) (k : Q (g y) H) : rIxL K (.ref a) (.int 1) H Q := g_ixL h atI_1c k
end
end SL
end

section
set_option synthInstance.maxHeartbeats 400000
set_option synthInstance.maxSize 4000
set_option Elab.async false
set_option linter.all false
set_option maxRecDepth 100000
set_option maxHeartbeats 1000000
namespace SL
open PySem L2
local macro_rules | `(tactic| row_cond sl_iH) => `(tactic| (rename Own _ _ => hO0; rename Hp => hq0; intro H1 hH1; clear hO0; (try clear hq0)))
local macro_rules | `(tactic| row_cond sl_ipH) => `(tactic| (rename Own _ _ => hO0; rename Hp => hq0; intro p1 H1 hH1; clear hO0; (try clear hq0)))
local macro_rules | `(tactic| row_cond sl_ivH) => `(tactic| (rename Own _ _ => hO0; rename Hp => hq0; intro v1 H1 hv1 hv2 hH1; clear hO0; (try clear hq0)))
local macro_rules | `(tactic| row_cond sl_ix) => `(tactic| first | assumption | exact atI_0 | exact atI_1 | exact atI_2 | exact atI_3c | exact atI_4c | exact atI_5c | exact atI_6c | exact atI_7c | exact rfl)
local macro_rules | `(tactic| row_cond sl_ixn) => `(tactic| first | assumption | exact ixN_0 | exact ixN_1 | exact rfl)
local macro_rules | `(tactic| row_cond sl_new) => `(tactic| (rename Own _ _ => z0; exact z0))
local macro_rules | `(tactic| row_cond sl_own) => `(tactic| first | (rename Own _ _ => z0; first | exact z0 | exact own_p1 z0 | exact own_p2 z0 | exact own_p3 z0 | exact own_p4 z0 | exact own_p5 z0 | exact own_p6 z0 | exact own_p7 z0 | exact own_p8 z0 | exact own_p9 z0 | exact own_p10 z0 | exact own_p11 z0 | exact own_p12 z0 | exact own_p13 z0 | exact own_p14 z0 | exact own_p15 z0 | exact own_p16 z0 | exact own_p17 z0 | exact own_p18 z0 | exact own_p19 z0) | assumption | exact own_p1 (by assumption) | exact own_p2 (by assumption) | exact own_p3 (by assumption) | exact own_p4 (by assumption) | exact own_p5 (by assumption))
local macro_rules | `(tactic| row_cond sl_at) => `(tactic| first | assumption | exact own_pt (by row_cond sl_own))
local macro_rules | `(tactic| row_cond sl_ar) => `(tactic| first | assumption | omega | decide | (simp only [List.length_set, List.length_map, List.length_append, List.length_replicate, List.length_cons, List.length_nil, List.length_range, List.length_tail]; omega))
local macro_rules | `(tactic| row_cond sl_sz) => `(tactic| first | assumption | decide | (simp only [List.length_map]; omega) | (simp only [List.length_map, List.length_cons, List.length_nil, List.length_append, List.length_range, List.length_replicate, List.length_set]; omega) | omega)
local macro_rules | `(tactic| row_cond sl_hb) => `(tactic| (intro hb; (try simp only [decide_eq_true_eq, decide_eq_false_iff_not, Bool.not_eq_true', Bool.not_eq_false', Bool.not_true, Bool.not_false, Bool.true_eq_false, Bool.false_eq_true, reduceCtorEq, bne_iff_ne, beq_iff_eq, ne_eq, Classical.not_not, decide_true, decide_false, not_true_eq_false, not_false_eq_true, List.head?_cons, List.head?_nil, bne_self_eq_false, beq_self_eq_true, Option.some.injEq, false_implies, Bool.and_eq_true, Bool.or_eq_true, eq_self, List.isEmpty_nil, List.isEmpty_cons, List.append_nil, List.nil_append, Bool.and_true, Bool.true_and, Bool.and_false, Bool.false_and, Bool.or_false, Bool.or_true, Bool.false_or, Bool.true_or, and_true, true_and, and_false, false_and, Bool.bne_false, Bool.bne_true, Bool.not_eq_true] at hb); (try contradiction); (try exact absurd hb (by decide +kernel)); (try (exfalso; revert hb; (try simp only [List.length_cons, List.length_nil, List.length_map, not_true_eq_false, not_false_eq_true, false_implies]); omega))))
local macro_rules | `(tactic| row_cond sl_s1) => `(tactic| (with_reducible refine rd_go ?_))
local macro_rules | `(tactic| row_cond sl_s2) => `(tactic| first
  | ((with_reducible refine g_modI ?k1 ?_); (case k1 => row_cond sl_ar))
  | ((with_reducible refine g_divI ?k1 ?_); (case k1 => row_cond sl_ar))
  | ((with_reducible refine g_mulI ?k1 ?_); (case k1 => row_cond sl_ar))
  | ((with_reducible refine g_wp ?k1 ?_); (case k1 => exact rfl)))
local macro_rules | `(tactic| row_cond sl_s3) => `(tactic| first
  | ((with_reducible refine hd_fld ?_); (with_reducible refine h_fld1 (by row_cond sl_own) ?_))
  | ((with_reducible refine hd_st2 ?_); ((with_reducible refine h_st2 (by row_cond sl_own) ?_); row_cond sl_iH))
  | ((with_reducible refine hd_au1 ?_); (with_reducible refine h_au1 (by row_cond sl_own) ?_))
  | ((with_reducible refine hd_au3 ?_); ((with_reducible refine h_au3 (by row_cond sl_own) ?_); row_cond sl_iH))
  | ((with_reducible refine hd_meth ?_); first | (with_reducible refine h_meth1 (by row_cond sl_new) (by exact inferInstance) ?_) | (with_reducible refine h_meth1 (own_p1 (by row_cond sl_new)) (by exact inferInstance) ?_) | (with_reducible refine h_meth1 (own_p2 (by row_cond sl_new)) (by exact inferInstance) ?_) | (with_reducible refine h_meth1 (own_p3 (by row_cond sl_new)) (by exact inferInstance) ?_) | (with_reducible refine h_meth1 (own_p4 (by row_cond sl_new)) (by exact inferInstance) ?_) | (with_reducible refine h_meth1 (own_p5 (by row_cond sl_new)) (by exact inferInstance) ?_) | (with_reducible refine h_meth1 (own_p6 (by row_cond sl_new)) (by exact inferInstance) ?_) | (with_reducible refine h_meth1 (own_p7 (by row_cond sl_new)) (by exact inferInstance) ?_) | (with_reducible refine h_meth1 (own_p8 (by row_cond sl_new)) (by exact inferInstance) ?_) | (with_reducible refine h_meth1 (own_p9 (by row_cond sl_new)) (by exact inferInstance) ?_) | (with_reducible refine h_meth1 (own_p10 (by row_cond sl_new)) (by exact inferInstance) ?_) | (with_reducible refine h_meth1 (own_p11 (by row_cond sl_new)) (by exact inferInstance) ?_) | (with_reducible refine h_meth1 (own_p12 (by row_cond sl_new)) (by exact inferInstance) ?_) | (with_reducible refine h_meth1 (own_p13 (by row_cond sl_new)) (by exact inferInstance) ?_) | (with_reducible refine h_meth1 (own_p14 (by row_cond sl_new)) (by exact inferInstance) ?_) | (with_reducible refine h_meth1 (own_p15 (by row_cond sl_new)) (by exact inferInstance) ?_) | (with_reducible refine h_meth1 (own_p16 (by row_cond sl_new)) (by exact inferInstance) ?_) | (with_reducible refine h_meth1 (own_p17 (by row_cond sl_new)) (by exact inferInstance) ?_) | (with_reducible refine h_meth1 (own_p18 (by row_cond sl_new)) (by exact inferInstance) ?_) | (with_reducible refine h_meth1 (own_p19 (by row_cond sl_new)) (by exact inferInstance) ?_))
  | ((with_reducible refine hd_len ?_); first | (with_reducible refine g_lenM (by row_cond sl_at) ?_) | (with_reducible refine g_len (by row_cond sl_at) ?_) | (with_reducible refine g_lenT (by row_cond sl_at) ?_))
  | ((with_reducible refine hd_bm ?_); (with_reducible refine g_bmL (by row_cond sl_at) ?_))
  | ((with_reducible refine hd_bm0 ?_); (with_reducible refine g_bm0L (by row_cond sl_at) ?_))
  | ((with_reducible refine hd_popAt ?_); ((with_reducible refine g_popC (by row_cond sl_own) (y := ?y1) (ys := ?y2) ?k1 ?_); (case k1 => exact rfl); row_cond sl_iH))
  | ((with_reducible refine hd_app ?_); first | ((with_reducible refine g_appendM (by row_cond sl_own) ?k1 ?_); (case k1 => row_cond sl_sz); row_cond sl_iH) | ((with_reducible refine g_append (by row_cond sl_own) ?k1 ?_); (case k1 => row_cond sl_sz); row_cond sl_iH))
  | ((with_reducible refine hd_lst ?_); ((with_reducible refine g_lstA (by assumption) ?k1 ?_); (case k1 => row_cond sl_sz); row_cond sl_ipH))
  | ((with_reducible refine hd_tup ?_); ((with_reducible refine g_tupA (by assumption) ?k1 ?_); (case k1 => row_cond sl_sz); row_cond sl_ipH))
  | ((with_reducible refine hd_list ?_); ((with_reducible refine g_listOf (by row_cond sl_at) (by assumption) ?_); row_cond sl_ipH))
  | ((with_reducible refine hd_ixL ?_); first | (with_reducible refine g_ixLast (by row_cond sl_at) ?_) | (with_reducible refine g_ixM0 (by row_cond sl_at) ?_) | (with_reducible refine g_ixM1 (by row_cond sl_at) ?_) | ((with_reducible refine g_ixLM (by row_cond sl_at) ?k1 ?_); (case k1 => row_cond sl_ar)) | ((with_reducible refine g_ixL (v := ?v1) (by row_cond sl_at) ?k1 ?_); (case k1 => row_cond sl_ix)) | ((with_reducible refine g_ixIl (by row_cond sl_at) ?k1 ?_); (case k1 => row_cond sl_sz); intro v1 hv1))
  | ((with_reducible refine hd_ixT ?_); ((with_reducible refine g_ixT (v := ?v1) (by row_cond sl_at) ?k1 ?_); (case k1 => row_cond sl_ix)))
  | ((with_reducible refine hd_su2 ?_); first | ((with_reducible refine g_setC (by row_cond sl_own) ?_); row_cond sl_iH) | ((with_reducible refine g_setLast (by row_cond sl_own) ?_); row_cond sl_iH) | ((with_reducible refine g_setLM (by row_cond sl_own) ?k1 ?_); (case k1 => row_cond sl_ar); row_cond sl_iH) | ((with_reducible refine g_setOS (by row_cond sl_own) ?k1 ?_); (case k1 => row_cond sl_ar); row_cond sl_iH) | ((with_reducible refine g_setON (by row_cond sl_own) ?k1 ?_); (case k1 => row_cond sl_ar); row_cond sl_iH) | ((with_reducible refine g_setL (j := ?j1) (by row_cond sl_own) ?k1 ?_); (case k1 => row_cond sl_ixn); row_cond sl_iH))
  | ((with_reducible refine hd_slL ?_); first | ((with_reducible refine g_slB (by row_cond sl_at) (by assumption) ?_); row_cond sl_ipH) | ((with_reducible refine g_slD (by row_cond sl_at) (by assumption) ?k1 ?_); (case k1 => row_cond sl_ar); row_cond sl_ipH) | ((with_reducible refine g_slT (by row_cond sl_at) (by assumption) ?k1 ?_); (case k1 => row_cond sl_ar); row_cond sl_ipH) | ((with_reducible refine g_slDv (by row_cond sl_at) (by assumption) ?k1 ?_); (case k1 => row_cond sl_ar); row_cond sl_ipH) | ((with_reducible refine g_slTv (by row_cond sl_at) (by assumption) ?k1 ?_); (case k1 => row_cond sl_ar); row_cond sl_ipH) | ((with_reducible refine g_slice (by row_cond sl_at) (by assumption) ?_); row_cond sl_ipH) | ((with_reducible refine g_sliceS (by row_cond sl_own) ?_); row_cond sl_ipH))
  | ((with_reducible refine hd_listI ?_); (with_reducible refine g_iListS (by row_cond sl_own) ?_))
  | ((with_reducible refine hd_len ?_); (with_reducible refine g_lenSq (by row_cond sl_own) ?_))
  | ((with_reducible refine hd_gtup ?_); ((with_reducible refine g_gtup (by row_cond sl_at) ?k1 ?_); (case k1 => exact rfl)))
  | ((with_reducible refine hd_listI ?_); (with_reducible refine g_iList1 (by row_cond sl_at) ?_))
  | ((with_reducible refine hd_tupI ?_); (with_reducible refine g_iTup1 (by row_cond sl_at) ?_))
  | ((with_reducible refine hd_rng1 ?_); first | ((with_reducible refine g_iRng1N ?k1 ?_); (case k1 => row_cond sl_ar)) | ((with_reducible refine g_iRng1A ?k1 ?_); (case k1 => row_cond sl_ar)))
  | ((with_reducible refine hd_rng2 ?_); ((with_reducible refine g_iRng2A ?k1 ?_); (case k1 => row_cond sl_ar)))
  | ((with_reducible refine hd_make ?_); ((with_reducible refine g_makeA (by assumption) ?_); row_cond sl_ipH))
  | ((with_reducible refine hd_isi ?_); first | (with_reducible refine g_isiLL (by row_cond sl_at) ?_) | (with_reducible refine g_isiTT (by row_cond sl_at) ?_) | (with_reducible refine g_isiLT (by row_cond sl_at) ?_) | (with_reducible refine g_isiTL (by row_cond sl_at) ?_) | (with_reducible refine g_isiLI (by row_cond sl_at) ?_) | (with_reducible refine g_isiTI (by row_cond sl_at) ?_) | (with_reducible refine g_isiTB (by row_cond sl_at) ?_))
  | ((with_reducible refine hd_eqD ?_); ((with_reducible refine g_eqD (by row_cond sl_dt) (by row_cond sl_dt) ?k1 ?_); (case k1 => decide)))
  | ((with_reducible refine hd_neD ?_); ((with_reducible refine g_neD (by row_cond sl_dt) (by row_cond sl_dt) ?k1 ?_); (case k1 => decide)))
  | ((with_reducible refine hd_rep ?_); first | ((with_reducible refine g_repB (by row_cond sl_at) (by assumption) ?k1 ?_); (case k1 => row_cond sl_ar); row_cond sl_ipH) | ((with_reducible refine g_repI (by row_cond sl_at) (by assumption) ?k1 ?_); (case k1 => row_cond sl_ar); row_cond sl_ipH) | ((with_reducible refine g_repN (by row_cond sl_at) (by assumption) ?k1 ?_); (case k1 => row_cond sl_ar); row_cond sl_ipH))
  | ((with_reducible refine hd_cat ?_); first | ((with_reducible refine g_catM (by row_cond sl_at) (by row_cond sl_at) (by assumption) ?k1 ?_); (case k1 => row_cond sl_sz); row_cond sl_ipH) | ((with_reducible refine g_cat (by row_cond sl_at) (by row_cond sl_at) (by assumption) ?k1 ?_); (case k1 => row_cond sl_sz); row_cond sl_ipH))
  | ((with_reducible refine hd_ext ?_); first | ((with_reducible refine g_extendM (by row_cond sl_own) (by row_cond sl_at) ?k1 ?_); (case k1 => row_cond sl_sz); row_cond sl_iH) | ((with_reducible refine g_extend (by row_cond sl_own) (by row_cond sl_at) ?k1 ?_); (case k1 => row_cond sl_sz); row_cond sl_iH))
  | ((with_reducible refine hd_pop ?_); (with_reducible refine g_pop (by row_cond sl_own) ?_); row_cond sl_iH)
  | ((with_reducible refine hd_dg2 ?_); (with_reducible refine g_dgetF (j := ?j1) (by row_cond sl_own) ?k1 ?_); (case k1 => row_cond sl_ix))
  | ((with_reducible refine hd_d21 ?_); (with_reducible refine g_d21F (by row_cond sl_own) ?_))
  | ((with_reducible refine hd_d23 ?_); (with_reducible refine g_d23F (by row_cond sl_own) ?_))
  | ((with_reducible refine hd_dp3 ?_); first | ((with_reducible refine g_dputF (by row_cond sl_own) ?k1 ?_); (case k1 => row_cond sl_ar); row_cond sl_iH) | ((with_reducible refine g_dputE (z := ?z1) (by row_cond sl_own) ?k1 ?_); (case k1 => assumption); row_cond sl_iH))
  | ((with_reducible refine hd_dnew ?_); (with_reducible refine g_dnew (by assumption) ?_); row_cond sl_ipH)
  | ((with_reducible refine hd_sum ?_); (with_reducible refine g_sumI (by row_cond sl_at) ?_))
  | ((with_reducible refine hd_all ?_); (with_reducible refine g_allB (by row_cond sl_at) ?_))
  | ((with_reducible refine hd_max ?_); (with_reducible refine g_maxI (by row_cond sl_at) ?k1 ?_); (case k1 => row_cond sl_ar); intro m1 hm1)
  | ((with_reducible refine hd_min ?_); (with_reducible refine g_minI (by row_cond sl_at) ?k1 ?_); (case k1 => row_cond sl_ar); intro m1 hm1)
  | (row_cond sl_use))
local macro_rules | `(tactic| row_cond sl_s4) => `(tactic| first
  | ((with_reducible refine g_ifS1 ?_ ?_) <;> row_cond sl_hb)
  | ((with_reducible refine g_and1 ?_ ?_) <;> row_cond sl_hb)
  | ((with_reducible refine g_or1 ?_ ?_) <;> row_cond sl_hb)
  | ((with_reducible refine g_andV1 ?_ ?_) <;> row_cond sl_hb)
  | ((with_reducible refine g_orV1 ?_ ?_) <;> row_cond sl_hb)
  | ((with_reducible refine g_if1 ?_ ?_) <;> row_cond sl_hb)
  | ((with_reducible refine g_wh ?_ ?_) <;> row_cond sl_hb)
  | ((with_reducible refine g_ci ?_ ?_) <;> row_cond sl_hb))
local macro_rules | `(tactic| row_cond sl_go) => `(tactic| repeat' (first | row_cond sl_s1 | row_cond sl_s3 | row_cond sl_s4 | row_cond sl_s2))
local macro_rules | `(tactic| row_cond sl_all) => `(tactic| repeat' (first | row_cond sl_s1 | row_cond sl_s3 | row_cond sl_s4 | row_cond sl_s2 | (with_reducible refine g_thru ?_)))
local macro_rules | `(tactic| row_cond sl_drop) => `(tactic| first | assumption | ((rename Own _ _ => z0); (repeat (first | exact z0 | (replace z0 := Own.tail z0))); done))
local macro_rules | `(tactic| row_cond sl_close) => `(tactic| fail)
local macro_rules | `(tactic| row_cond sl_fin1) => `(tactic| first | ((refine Own.cons_mono (by row_cond sl_own) ?_); intro h1 z1) | row_cond sl_close)
local macro_rules | `(tactic| row_cond sl_fin) => `(tactic| ((repeat row_cond sl_fin1); row_cond sl_drop))
local macro_rules | `(tactic| row_cond sl_dt) => `(tactic| first | assumption | exact is_ints (by row_cond sl_at) | exact is_bls (by row_cond sl_at) | exact is_lit (by row_cond sl_at) | exact is_int | exact is_it (it_lost (by row_cond sl_at)) | exact is_its (by row_cond sl_at) (own_per (by row_cond sl_own) pst_its) | exact is_slts (by row_cond sl_own2))
local macro_rules | `(tactic| row_cond sl_own2) => `(tactic| exact Own.cons_mono (by row_cond sl_own) (fun h z => by row_cond sl_own))
local macro_rules | `(tactic| row_cond sl_own3) => `(tactic| exact Own.cons_mono (by row_cond sl_own) (fun h z => by row_cond sl_own2))
local macro_rules | `(tactic| row_cond sl_own4) => `(tactic| exact Own.cons_mono (by row_cond sl_own) (fun h z => by row_cond sl_own3))
local macro_rules | `(tactic| row_cond sl_own5) => `(tactic| exact Own.cons_mono (by row_cond sl_own) (fun h z => by row_cond sl_own4))
local macro_rules | `(tactic| row_cond sl_own6) => `(tactic| exact Own.cons_mono (by row_cond sl_own) (fun h z => by row_cond sl_own5))
local macro_rules | `(tactic| row_cond sl_own7) => `(tactic| exact Own.cons_mono (by row_cond sl_own) (fun h z => by row_cond sl_own6))
local macro_rules | `(tactic| row_cond sl_own8) => `(tactic| exact Own.cons_mono (by row_cond sl_own) (fun h z => by row_cond sl_own7))
local macro_rules | `(tactic| row_cond sl_own9) => `(tactic| exact Own.cons_mono (by row_cond sl_own) (fun h z => by row_cond sl_own8))
local macro_rules | `(tactic| row_cond sl_own10) => `(tactic| exact Own.cons_mono (by row_cond sl_own) (fun h z => by row_cond sl_own9))
local macro_rules | `(tactic| row_cond sl_own11) => `(tactic| exact Own.cons_mono (by row_cond sl_own) (fun h z => by row_cond sl_own10))
local macro_rules | `(tactic| row_cond sl_own12) => `(tactic| exact Own.cons_mono (by row_cond sl_own) (fun h z => by row_cond sl_own11))
local macro_rules | `(tactic| row_cond sl_w) => `(tactic| (try simp only [wipe, List.set_cons_succ, List.set_cons_zero]))

/-! ## rq -/
/-! ### ReceiveQueue -/
class Tx_ReceiveQueue (K : PySem.W.Frag) : Prop where
  cl : Cls K (He.ga K "ReceiveQueue")
  n_capacity : NoAttr K (He.ga K "ReceiveQueue") "capacity"
  n_rows : NoAttr K (He.ga K "ReceiveQueue") "rows"
  n_held : NoAttr K (He.ga K "ReceiveQueue") "held"
def ks_ReceiveQueue : List Str := ["capacity", "rows", "held"]
theorem nd_ReceiveQueue : ks_ReceiveQueue.Nodup := by decide +kernel
theorem nm_ReceiveQueue : ∀ m ∈ (["__init__", "arrive", "first", "take", "oldest_tick", "bytes_held", "contents"] : List Str), m ∉ ks_ReceiveQueue := by decide +kernel
def fs_ReceiveQueue (a0 a1 a2 : V) : List (Str × V) := [("capacity", a0), ("rows", a1), ("held", a2)]
theorem fz_ReceiveQueue (a0 a1 a2 : V) : fs_ReceiveQueue a0 a1 a2 = ks_ReceiveQueue.zip [a0, a1, a2] := rfl
section
variable {K : PySem.W.Frag} {y a0 a1 a2 : V} {m : Str}
instance [T : Tx_ReceiveQueue K] : Cl K (He.ga K "ReceiveQueue") := ⟨T.cl⟩
instance [T : Tx_ReceiveQueue K] : Na K (He.ga K "ReceiveQueue") "capacity" := ⟨T.n_capacity⟩
instance [T : Tx_ReceiveQueue K] : Na K (He.ga K "ReceiveQueue") "rows" := ⟨T.n_rows⟩
instance [T : Tx_ReceiveQueue K] : Na K (He.ga K "ReceiveQueue") "held" := ⟨T.n_held⟩
instance : Lk (fs_ReceiveQueue a0 a1 a2) "capacity" a0 := ⟨lookup_zip (ks := ks_ReceiveQueue) (vs := [a0, a1, a2]) (i := 0) nd_ReceiveQueue rfl rfl⟩
instance : Pf "capacity" y (fs_ReceiveQueue a0 a1 a2) (fs_ReceiveQueue y a1 a2) := ⟨putF_zip (ks := ks_ReceiveQueue) (vs := [a0, a1, a2]) (i := 0) nd_ReceiveQueue rfl rfl⟩
instance : Lk (fs_ReceiveQueue a0 a1 a2) "rows" a1 := ⟨lookup_zip (ks := ks_ReceiveQueue) (vs := [a0, a1, a2]) (i := 1) nd_ReceiveQueue rfl rfl⟩
instance : Pf "rows" y (fs_ReceiveQueue a0 a1 a2) (fs_ReceiveQueue a0 y a2) := ⟨putF_zip (ks := ks_ReceiveQueue) (vs := [a0, a1, a2]) (i := 1) nd_ReceiveQueue rfl rfl⟩
instance : Lk (fs_ReceiveQueue a0 a1 a2) "held" a2 := ⟨lookup_zip (ks := ks_ReceiveQueue) (vs := [a0, a1, a2]) (i := 2) nd_ReceiveQueue rfl rfl⟩
instance : Pf "held" y (fs_ReceiveQueue a0 a1 a2) (fs_ReceiveQueue a0 a1 y) := ⟨putF_zip (ks := ks_ReceiveQueue) (vs := [a0, a1, a2]) (i := 2) nd_ReceiveQueue rfl rfl⟩
instance : Lm (fs_ReceiveQueue a0 a1 a2) "__init__" := ⟨lookup_zip_none (ks := ks_ReceiveQueue) (vs := [a0, a1, a2]) (nm_ReceiveQueue "__init__" (by simp))⟩
instance : Lm (fs_ReceiveQueue a0 a1 a2) "arrive" := ⟨lookup_zip_none (ks := ks_ReceiveQueue) (vs := [a0, a1, a2]) (nm_ReceiveQueue "arrive" (by simp))⟩
instance : Lm (fs_ReceiveQueue a0 a1 a2) "first" := ⟨lookup_zip_none (ks := ks_ReceiveQueue) (vs := [a0, a1, a2]) (nm_ReceiveQueue "first" (by simp))⟩
instance : Lm (fs_ReceiveQueue a0 a1 a2) "take" := ⟨lookup_zip_none (ks := ks_ReceiveQueue) (vs := [a0, a1, a2]) (nm_ReceiveQueue "take" (by simp))⟩
instance : Lm (fs_ReceiveQueue a0 a1 a2) "oldest_tick" := ⟨lookup_zip_none (ks := ks_ReceiveQueue) (vs := [a0, a1, a2]) (nm_ReceiveQueue "oldest_tick" (by simp))⟩
instance : Lm (fs_ReceiveQueue a0 a1 a2) "bytes_held" := ⟨lookup_zip_none (ks := ks_ReceiveQueue) (vs := [a0, a1, a2]) (nm_ReceiveQueue "bytes_held" (by simp))⟩
instance : Lm (fs_ReceiveQueue a0 a1 a2) "contents" := ⟨lookup_zip_none (ks := ks_ReceiveQueue) (vs := [a0, a1, a2]) (nm_ReceiveQueue "contents" (by simp))⟩
instance : Ln (fs_ReceiveQueue a0 a1 a2) := ⟨by show 3 < 1000; decide⟩
instance : Pf "capacity" y ([] : List (Str × V)) ([("capacity", y)] : List (Str × V)) := ⟨putF_new (by show ("capacity" : Str) ∉ ks_ReceiveQueue.take 0; decide +kernel)⟩
instance : Pf "rows" y ([("capacity", a0)] : List (Str × V)) ([("capacity", a0), ("rows", y)] : List (Str × V)) := ⟨putF_new (by show ("rows" : Str) ∉ ks_ReceiveQueue.take 1; decide +kernel)⟩
instance : Ln ([("capacity", a0)] : List (Str × V)) := ⟨by show 1 < 1000; decide⟩
instance : Pf "held" y ([("capacity", a0), ("rows", a1)] : List (Str × V)) (fs_ReceiveQueue a0 a1 y) := ⟨putF_new (by show ("held" : Str) ∉ ks_ReceiveQueue.take 2; decide +kernel)⟩
instance : Ln ([("capacity", a0), ("rows", a1)] : List (Str × V)) := ⟨by show 2 < 1000; decide⟩
end
def nbR (rows : List (Itm × Int)) : Int := (rows.countP fun r => r.1.byte : Nat)
/-- what a queue is behind an arrival -/
def arr (cap : Int) (rows : List (Itm × Int)) (byte tick : Int) : List (Itm × Int) :=
  if nbR rows < cap then rows ++ [(.b byte, tick)] else match rows.getLast? with
  | some (.lost n, came) => rows.dropLast ++ [(.lost (n + 1), came)]
  | _ => rows ++ [(.lost 1, tick)]
theorem nbR_nil : nbR [] = 0 := rfl
theorem nbR_snoc_b {rows : List (Itm × Int)} {b t : Int} : nbR (rows ++ [(.b b, t)]) = nbR rows + 1 := by
  unfold nbR
  rw [List.countP_append]
  simp [List.countP_cons, Itm.byte]
theorem nbR_snoc_l {rows : List (Itm × Int)} {b t : Int} : nbR (rows ++ [(.lost b, t)]) = nbR rows := by
  unfold nbR
  rw [List.countP_append]
  simp [List.countP_cons, Itm.byte]
theorem nbR_cons_b {rows : List (Itm × Int)} {b t : Int} : nbR ((.b b, t) :: rows) = nbR rows + 1 := by
  unfold nbR
  rw [List.countP_cons]
  simp [Itm.byte]
theorem nbR_cons_l {rows : List (Itm × Int)} {b t : Int} : nbR ((.lost b, t) :: rows) = nbR rows := by
  unfold nbR
  rw [List.countP_cons]
  simp [Itm.byte]
theorem nbR_nonneg (rows : List (Itm × Int)) : 0 ≤ nbR rows := Int.natCast_nonneg _
theorem arr_b {cap byte tick n t : Int} {rows : List (Itm × Int)} (h : ¬ nbR (rows ++ [(.b n, t)]) < cap) : arr cap (rows ++ [(.b n, t)]) byte tick = rows ++ [(.b n, t)] ++ [(.lost 1, tick)] := by
  unfold arr
  rw [if_neg h, List.getLast?_append] <;> rfl
theorem arr_l {cap byte tick n t : Int} {rows : List (Itm × Int)} (h : ¬ nbR (rows ++ [(.lost n, t)]) < cap) : arr cap (rows ++ [(.lost n, t)]) byte tick = rows ++ [(.lost (n + 1), t)] := by
  unfold arr
  rw [if_neg h, List.getLast?_append]
  show (rows ++ [(Itm.lost n, t)]).dropLast ++ _ = _
  rw [List.dropLast_append_of_ne_nil (by simp)]
  simp
structure rqA (K : PySem.W.Frag) (p : Addr) (cap : Int) (rows : List (Itm × Int)) (h : Hp) : Prop where
  e : ∃ l : Addr, ∃ vs : List V, al [ob p (He.ga K "ReceiveQueue") (fs_ReceiveQueue (.int cap) (.ref l) (.int (nbR rows))), pt l (.lst vs), rowsA vs rows] h
theorem rq_open {K : PySem.W.Frag} {p : Addr} {cap : Int} {rows : List (Itm × Int)} {F : List Atom} {H : Hp} (x : Own H (rqA K p cap rows :: F)) : ∃ l : Addr, ∃ vs : List V, Own H (ob p (He.ga K "ReceiveQueue") (fs_ReceiveQueue (.int cap) (.ref l) (.int (nbR rows))) :: pt l (.lst vs) :: rowsA vs rows :: F) := by
  have y := x.mono1 fun _ q => q.e
  obtain ⟨l, y⟩ := own_ex y
  obtain ⟨vs, y⟩ := own_ex y
  exact ⟨l, vs, own_in y⟩
theorem rq_close {K : PySem.W.Frag} {p : Addr} {cap : Int} {rows : List (Itm × Int)} {F : List Atom} {H : Hp} {l : Addr} {vs : List V} (x : Own H (ob p (He.ga K "ReceiveQueue") (fs_ReceiveQueue (.int cap) (.ref l) (.int (nbR rows))) :: pt l (.lst vs) :: rowsA vs rows :: F)) : Own H (rqA K p cap rows :: F) :=
  Own.mono1 (own_out (cs := [ob p (He.ga K "ReceiveQueue") (fs_ReceiveQueue (.int cap) (.ref l) (.int (nbR rows))), pt l (.lst vs), rowsA vs rows]) x) fun _ q => ⟨⟨l, vs, q⟩⟩
instance {K : PySem.W.Frag} {p : Addr} {cap : Int} {rows : List (Itm × Int)} {m : Str} [i : ∀ a b c, Lm (fs_ReceiveQueue a b c) m] : Mn (rqA K p cap rows) p (He.ga K "ReceiveQueue") m := ⟨fun h ⟨⟨l, vs, y⟩⟩ => by
  obtain ⟨dx, e⟩ := own_ob y.e
  exact ⟨dx, _, e, (i _ _ _).h⟩⟩
def sp_ReceiveQueue_init (K : PySem.W.Frag) : Sp := fun vs H Q _ => ∃ (p : Addr) (cap : Int) (F : List Atom), vs = [.ref p, .int cap] ∧ Own H (ob p (He.ga K "ReceiveQueue") [] :: F) ∧ ∀  H', Own H' (rqA K p cap [] :: F) → Q (.non) H'
theorem hd_sp_ReceiveQueue_init {K : PySem.W.Frag} {vs : List V} {H : Hp} {Q : VK} {E : XK} (k : sp_ReceiveQueue_init K vs H Q E) : sp_ReceiveQueue_init K vs H Q E := k
theorem use_ReceiveQueue_init {K : PySem.W.Frag} {p : Addr} {cap : Int} {F : List Atom} {H : Hp} {Q : VK} {E : XK} (x0 : Own H (ob p (He.ga K "ReceiveQueue") [] :: F)) (k : ∀  H', Own H' (rqA K p cap [] :: F) → Q (.non) H') : sp_ReceiveQueue_init K [.ref p, .int cap] H Q E := ⟨p, cap, F, rfl, x0, k⟩
def sp_ReceiveQueue_arrive (K : PySem.W.Frag) : Sp := fun vs H Q _ => ∃ (p : Addr) (cap : Int) (rows : List (Itm × Int)) (byte tick : Int) (F : List Atom), vs = [.ref p, .int byte, .int tick] ∧ (0 < cap ∧ rows.length ≤ 100000) ∧ Own H (rqA K p cap rows :: F) ∧ ∀  H', Own H' (rqA K p cap (arr cap rows byte tick) :: F) → Q (.bl (decide (nbR rows < cap))) H'
theorem hd_sp_ReceiveQueue_arrive {K : PySem.W.Frag} {vs : List V} {H : Hp} {Q : VK} {E : XK} (k : sp_ReceiveQueue_arrive K vs H Q E) : sp_ReceiveQueue_arrive K vs H Q E := k
theorem use_ReceiveQueue_arrive {K : PySem.W.Frag} {p : Addr} {cap : Int} {rows : List (Itm × Int)} {byte tick : Int} {F : List Atom} {H : Hp} {Q : VK} {E : XK} (x0 : Own H (rqA K p cap rows :: F)) (hp : 0 < cap ∧ rows.length ≤ 100000) (k : ∀  H', Own H' (rqA K p cap (arr cap rows byte tick) :: F) → Q (.bl (decide (nbR rows < cap))) H') : sp_ReceiveQueue_arrive K [.ref p, .int byte, .int tick] H Q E := ⟨p, cap, rows, byte, tick, F, rfl, hp, x0, k⟩
def sp_ReceiveQueue_first (K : PySem.W.Frag) : Sp := fun vs H Q _ => ∃ (p : Addr) (cap : Int) (rows : List (Itm × Int)) (F : List Atom), vs = [.ref p] ∧ Own H (rqA K p cap rows :: F) ∧ (match rows with | [] => Q .non H | r :: _ => ∀ w, itA w r.1 H → Q w H)
theorem hd_sp_ReceiveQueue_first {K : PySem.W.Frag} {vs : List V} {H : Hp} {Q : VK} {E : XK} (k : sp_ReceiveQueue_first K vs H Q E) : sp_ReceiveQueue_first K vs H Q E := k
def sp_ReceiveQueue_take (K : PySem.W.Frag) : Sp := fun vs H Q _ => ∃ (p : Addr) (cap : Int) (rows : List (Itm × Int)) (F : List Atom), vs = [.ref p] ∧ Own H (rqA K p cap rows :: F) ∧ (match rows with | [] => Q .non H | r :: rs => ∀ w H', Own H' (itA w r.1 :: rqA K p cap rs :: F) → Q w H')
theorem hd_sp_ReceiveQueue_take {K : PySem.W.Frag} {vs : List V} {H : Hp} {Q : VK} {E : XK} (k : sp_ReceiveQueue_take K vs H Q E) : sp_ReceiveQueue_take K vs H Q E := k
def sp_ReceiveQueue_oldest_tick (K : PySem.W.Frag) : Sp := fun vs H Q _ => ∃ (p : Addr) (cap : Int) (rows : List (Itm × Int)) (F : List Atom), vs = [.ref p] ∧ Own H (rqA K p cap rows :: F) ∧ Q (vO (rows.head?.map (·.2))) H
theorem hd_sp_ReceiveQueue_oldest_tick {K : PySem.W.Frag} {vs : List V} {H : Hp} {Q : VK} {E : XK} (k : sp_ReceiveQueue_oldest_tick K vs H Q E) : sp_ReceiveQueue_oldest_tick K vs H Q E := k
theorem use_ReceiveQueue_oldest_tick {K : PySem.W.Frag} {p : Addr} {cap : Int} {rows : List (Itm × Int)} {F : List Atom} {H : Hp} {Q : VK} {E : XK} (x0 : Own H (rqA K p cap rows :: F)) (k : Q (vO (rows.head?.map (·.2))) H) : sp_ReceiveQueue_oldest_tick K [.ref p] H Q E := ⟨p, cap, rows, F, rfl, x0, k⟩
def sp_ReceiveQueue_bytes_held (K : PySem.W.Frag) : Sp := fun vs H Q _ => ∃ (p : Addr) (cap : Int) (rows : List (Itm × Int)) (F : List Atom), vs = [.ref p] ∧ Own H (rqA K p cap rows :: F) ∧ Q (.int (nbR rows)) H
theorem hd_sp_ReceiveQueue_bytes_held {K : PySem.W.Frag} {vs : List V} {H : Hp} {Q : VK} {E : XK} (k : sp_ReceiveQueue_bytes_held K vs H Q E) : sp_ReceiveQueue_bytes_held K vs H Q E := k
theorem use_ReceiveQueue_bytes_held {K : PySem.W.Frag} {p : Addr} {cap : Int} {rows : List (Itm × Int)} {F : List Atom} {H : Hp} {Q : VK} {E : XK} (x0 : Own H (rqA K p cap rows :: F)) (k : Q (.int (nbR rows)) H) : sp_ReceiveQueue_bytes_held K [.ref p] H Q E := ⟨p, cap, rows, F, rfl, x0, k⟩
def sp_ReceiveQueue_contents (K : PySem.W.Frag) : Sp := fun vs H Q _ => ∃ (p : Addr) (cap : Int) (rows : List (Itm × Int)) (F : List Atom), vs = [.ref p] ∧ (rows.length ≤ 100000) ∧ Own H (rqA K p cap rows :: F) ∧ ∀ (q : Addr) (vs : List V) H', Own H' (pt q (.lst vs) :: itsA vs (rows.map (·.1)) :: rqA K p cap rows :: F) → Q (.ref q) H'
theorem hd_sp_ReceiveQueue_contents {K : PySem.W.Frag} {vs : List V} {H : Hp} {Q : VK} {E : XK} (k : sp_ReceiveQueue_contents K vs H Q E) : sp_ReceiveQueue_contents K vs H Q E := k
theorem use_ReceiveQueue_contents {K : PySem.W.Frag} {p : Addr} {cap : Int} {rows : List (Itm × Int)} {F : List Atom} {H : Hp} {Q : VK} {E : XK} (x0 : Own H (rqA K p cap rows :: F)) (hp : rows.length ≤ 100000) (k : ∀ (q : Addr) (vs : List V) H', Own H' (pt q (.lst vs) :: itsA vs (rows.map (·.1)) :: rqA K p cap rows :: F) → Q (.ref q) H') : sp_ReceiveQueue_contents K [.ref p] H Q E := ⟨p, cap, rows, F, rfl, hp, x0, k⟩
noncomputable def t_ReceiveQueue_init (K : PySem.W.Frag) : TS :=
  tSeq (sFld K (tVar 0) (tVar 1) "capacity")
  (tSeq (sFld K (tVar 0) (tLst (tNil)) "rows")
  (sFld K (tVar 0) (tC (.int 0)) "held"))
noncomputable def t_ReceiveQueue_arrive (K : PySem.W.Frag) : TS :=
  tSeq (tIfS (tTest (tOp rLtI (tFld K (tVar 0) "held") (tFld K (tVar 0) "capacity"))) (tSeq (tDrop (tBM K "list" rAppend (tFld K (tVar 0) "rows") (tCons (tTup (tCons (tVar 1) (tCons (tVar 2) (tNil)))) (tNil))))
  (tSeq (sFldAug K (tVar 0) (tC (.int 1)) rAdd "held")
  (tRet (tC (.bl true))))) (tNext))
  (tSeq (tAsg (tOp (rIxL K) (tFld K (tVar 0) "rows") (tUn rNegI (tC (.int 1)))) (gTup K 2 (gCons (gName 3) (gCons (gName 4) (gNil)))))
  (tSeqM (tIfS (tB (tCB (rIsi K) (tCons (tVar 3) (tCons (tC (.ty "tuple")) (tNil))))) (tAsg (tTup (tCons (tTup (tCons (tC (.str "lost")) (tCons (tOp rAddI (tOp (rIxT K) (tVar 3) (tC (.int 1))) (tC (.int 1))) (tNil)))) (tCons (tVar 4) (tNil)))) (gSub (tFld K (tVar 0) "rows") (tUn rNegI (tC (.int 1))) rSetL)) (tDrop (tBM K "list" rAppend (tFld K (tVar 0) "rows") (tCons (tTup (tCons (tTup (tCons (tC (.str "lost")) (tCons (tC (.int 1)) (tNil)))) (tCons (tVar 2) (tNil)))) (tNil)))))
  (tRet (tC (.bl false)))))
noncomputable def t_ReceiveQueue_first (K : PySem.W.Frag) : TS :=
  tSeq (tIfS (tTest (tOp rEq (tCB (rLen K) (tCons (tFld K (tVar 0) "rows") (tNil))) (tC (.int 0)))) (tRet (tC .non)) (tNext))
  (tRet (tOp (rIxT K) (tOp (rIxL K) (tFld K (tVar 0) "rows") (tC (.int 0))) (tC (.int 0))))
noncomputable def t_ReceiveQueue_take (K : PySem.W.Frag) : TS :=
  tSeq (tIfS (tTest (tOp rEq (tCB (rLen K) (tCons (tFld K (tVar 0) "rows") (tNil))) (tC (.int 0)))) (tRet (tC .non)) (tNext))
  (tSeq (tAsg (tOp (rIxT K) (tBM K "list" rPopAt (tFld K (tVar 0) "rows") (tCons (tC (.int 0)) (tNil))) (tC (.int 0))) (gName 1))
  (tSeqM (tIfS (tNot (tB (tCB (rIsi K) (tCons (tVar 1) (tCons (tC (.ty "tuple")) (tNil)))))) (sFldAug K (tVar 0) (tC (.int 1)) rSub "held") (tNext))
  (tRet (tVar 1))))
noncomputable def t_ReceiveQueue_oldest_tick (K : PySem.W.Frag) : TS :=
  tSeq (tIfS (tTest (tOp rEq (tCB (rLen K) (tCons (tFld K (tVar 0) "rows") (tNil))) (tC (.int 0)))) (tRet (tC .non)) (tNext))
  (tRet (tOp (rIxT K) (tOp (rIxL K) (tFld K (tVar 0) "rows") (tC (.int 0))) (tC (.int 1))))
noncomputable def t_ReceiveQueue_bytes_held (K : PySem.W.Frag) : TS :=
  tRet (tFld K (tVar 0) "held")
noncomputable def t_ReceiveQueue_contents (K : PySem.W.Frag) : TS :=
  tRet (tLc (iList K (tFld K (tVar 0) "rows")) (gName 1) (tYes) (tOp (rIxT K) (tVar 1) (tC (.int 0))) [1])
section
variable {K : PySem.W.Frag} {p l : Addr} {cap n : Int} {vs : List V} {rows : List (Itm × Int)} {F : List Atom} {H : Hp} {Q : VK} {E : XK}
theorem rq_closeG (x : Own H (ob p (He.ga K "ReceiveQueue") (fs_ReceiveQueue (.int cap) (.ref l) (.int n)) :: pt l (.lst vs) :: F)) (e : n = nbR rows) (g : rowsA vs rows H) : Own H (rqA K p cap rows :: F) := by
  subst e
  exact rq_close (own_p2 (own_p2 (per_own g pst_rows x)))
theorem own_it {w : V} {x : Itm} (g : itA w x H) (x0 : Own H F) : (∃ n, x = .b n ∧ w = .int n) ∨ ∃ n q, x = .lost n ∧ w = .ref q ∧ Own H (pt q (.tup [.str "lost", .int n]) :: F) := by
  cases x with
  | b n => exact .inl ⟨n, rfl, g.e⟩
  | lost n =>
    obtain ⟨q, e1, e2⟩ := g.e
    exact .inr ⟨n, q, rfl, e1, per_own (φ := pt q (.tup [.str "lost", .int n])) ⟨e2⟩ pst_tup x0⟩
variable {t b : Int}
theorem use_ReceiveQueue_first_n (x : Own H (rqA K p cap [] :: F)) (k : Q .non H) : sp_ReceiveQueue_first K [.ref p] H Q E := ⟨p, cap, [], F, rfl, x, k⟩
theorem use_ReceiveQueue_first_b (x : Own H (rqA K p cap ((.b b, t) :: rows) :: F)) (k : Q (.int b) H) : sp_ReceiveQueue_first K [.ref p] H Q E := ⟨p, cap, _, F, rfl, x, fun w hw => by rw [show w = .int b from hw.e]; exact k⟩
theorem use_ReceiveQueue_first_l (x : Own H (rqA K p cap ((.lost b, t) :: rows) :: F)) (k : ∀ q, Own H (pt q (.tup [.str "lost", .int b]) :: rqA K p cap ((.lost b, t) :: rows) :: F) → Q (.ref q) H) : sp_ReceiveQueue_first K [.ref p] H Q E := ⟨p, cap, _, F, rfl, x, fun w hw => by
  obtain ⟨q, e1, e2⟩ := hw.e
  rw [e1]
  exact k q (per_own (φ := pt q (.tup [.str "lost", .int b])) ⟨e2⟩ pst_tup x)⟩
theorem use_ReceiveQueue_take_n (x : Own H (rqA K p cap [] :: F)) (k : Q .non H) : sp_ReceiveQueue_take K [.ref p] H Q E := ⟨p, cap, [], F, rfl, x, k⟩
theorem use_ReceiveQueue_take_b (x : Own H (rqA K p cap ((.b b, t) :: rows) :: F)) (k : ∀ H', Own H' (rqA K p cap rows :: F) → Q (.int b) H') : sp_ReceiveQueue_take K [.ref p] H Q E := ⟨p, cap, _, F, rfl, x, fun w H' hw => by
  obtain ⟨h, g, _⟩ := hw.at1
  rw [show w = .int b from g.e]
  exact k H' hw.tail⟩
theorem use_ReceiveQueue_take_l (x : Own H (rqA K p cap ((.lost b, t) :: rows) :: F)) (k : ∀ q H', Own H' (pt q (.tup [.str "lost", .int b]) :: rqA K p cap rows :: F) → Q (.ref q) H') : sp_ReceiveQueue_take K [.ref p] H Q E := ⟨p, cap, _, F, rfl, x, fun w H' hw => by
  obtain ⟨q, e1, e2⟩ := (own_per hw pst_it).e
  rw [e1]
  exact k q H' (per_own (φ := pt q (.tup [.str "lost", .int b])) ⟨e2⟩ pst_tup hw.tail)⟩
theorem use_rq_capacity [Tx_ReceiveQueue K] (x : Own H (rqA K p cap rows :: F)) (k : Q (.int cap) H) : kFld K "capacity" Q (.ref p) H := by
  obtain ⟨l, vs, y⟩ := rq_open x
  exact h_fld1 y k
end

local macro_rules | `(tactic| row_cond sl_close) => `(tactic| apply rq_close)
local macro_rules | `(tactic| row_cond sl_use) => `(tactic| ((with_reducible refine hd_sp_ReceiveQueue_init ?_); (with_reducible refine use_ReceiveQueue_init (cap := ?zcap) (by row_cond sl_own) ?_); (rename Own _ _ => hO0; rename Hp => hq0; intro H1 hH1; clear hO0; (try clear hq0))))
local macro_rules | `(tactic| row_cond sl_use) => `(tactic| ((with_reducible refine hd_sp_ReceiveQueue_arrive ?_); (with_reducible refine use_ReceiveQueue_arrive (tick := ?ztick) (by row_cond sl_own) ?k1 ?_); (case k1 => row_cond sl_ar); (rename Own _ _ => hO0; rename Hp => hq0; intro H1 hH1; clear hO0; (try clear hq0))))
local macro_rules | `(tactic| row_cond sl_use) => `(tactic| ((with_reducible refine hd_sp_ReceiveQueue_oldest_tick ?_); (with_reducible refine use_ReceiveQueue_oldest_tick (by row_cond sl_own) ?_)))
local macro_rules | `(tactic| row_cond sl_use) => `(tactic| ((with_reducible refine hd_sp_ReceiveQueue_bytes_held ?_); (with_reducible refine use_ReceiveQueue_bytes_held (by row_cond sl_own) ?_)))
local macro_rules | `(tactic| row_cond sl_use) => `(tactic| ((with_reducible refine hd_sp_ReceiveQueue_contents ?_); (with_reducible refine use_ReceiveQueue_contents (by row_cond sl_own) ?k1 ?_); (case k1 => row_cond sl_ar); (rename Own _ _ => hO0; rename Hp => hq0; intro q vs H1 hH1; clear hO0; (try clear hq0))))
local macro_rules | `(tactic| row_cond sl_use) => `(tactic| first
  | (with_reducible refine hd_fld ?_); (with_reducible refine use_rq_capacity (by row_cond sl_own) ?_)
  | (with_reducible refine hd_sp_ReceiveQueue_first ?_); (with_reducible refine use_ReceiveQueue_first_n (by row_cond sl_own) ?_)
  | (with_reducible refine hd_sp_ReceiveQueue_first ?_); (with_reducible refine use_ReceiveQueue_first_b (by row_cond sl_own) ?_)
  | ((with_reducible refine hd_sp_ReceiveQueue_first ?_); (with_reducible refine use_ReceiveQueue_first_l (by row_cond sl_own) ?_); (rename Own _ _ => hO0; intro q1 hH1; clear hO0))
  | (with_reducible refine hd_sp_ReceiveQueue_take ?_); (with_reducible refine use_ReceiveQueue_take_n (by row_cond sl_own) ?_)
  | ((with_reducible refine hd_sp_ReceiveQueue_take ?_); (with_reducible refine use_ReceiveQueue_take_b (by row_cond sl_own) ?_); row_cond sl_iH)
  | ((with_reducible refine hd_sp_ReceiveQueue_take ?_); (with_reducible refine use_ReceiveQueue_take_l (by row_cond sl_own) ?_); row_cond sl_ipH))


section
variable {K : PySem.W.Frag} [Tx_ReceiveQueue K] {vs : List V} {H : Hp} {Q : VK} {E : XK}
theorem pu_ReceiveQueue_init (h : sp_ReceiveQueue_init K vs H Q E) : t_ReceiveQueue_init K (De Q) (start ["self", "capacity"] vs) H := by
  obtain ⟨p, cap, F, rfl, hH, k⟩ := h
  show t_ReceiveQueue_init K (De Q) [some (.ref p), some (.int cap)] H
  unfold t_ReceiveQueue_init
  row_cond sl_go
  rename Own _ _ => hO
  exact k _ (rq_closeG hO rfl ⟨.nil⟩)
theorem pu_ReceiveQueue_bytes_held (h : sp_ReceiveQueue_bytes_held K vs H Q E) : t_ReceiveQueue_bytes_held K (De Q) (start ["self"] vs) H := by
  obtain ⟨p, cap, rows, F, rfl, hH, k⟩ := h
  obtain ⟨l, vs, hO⟩ := rq_open hH
  clear hH
  show t_ReceiveQueue_bytes_held K (De Q) [some (.ref p)] H
  unfold t_ReceiveQueue_bytes_held
  row_cond sl_go
  all_goals first | exact k | exact k _ (by row_cond sl_fin) | exact k _ _ (by row_cond sl_fin)
theorem pu_ReceiveQueue_arrive (h : sp_ReceiveQueue_arrive K vs H Q E) : t_ReceiveQueue_arrive K (De Q) (start ["self", "byte", "tick", "newest", "came"] vs) H := by
  obtain ⟨p, cap, rows, byte, tick, F, rfl, hp, hH, k⟩ := h
  obtain ⟨l, vs, hO⟩ := rq_open hH
  clear hH
  have hr := own_per (own_p2 hO) pst_rows
  have hl := hr.e.len
  show t_ReceiveQueue_arrive K (De Q) [some (.ref p), some (.int byte), some (.int tick), none, none] H
  unfold t_ReceiveQueue_arrive
  by_cases hc : nbR rows < cap
  · have k := (show arr cap rows byte tick = rows ++ [(Itm.b byte, tick)] from if_pos hc) ▸ k
    row_cond sl_go
    rename Own _ _ => hO
    rename Addr => q
    have hq := own_per (own_p2 hO) pst_tup
    refine bl_of (decide_eq_true hc) (k _ (rq_closeG (Own.cons_mono hO fun h1 z1 => Own.cons_mono z1 fun h2 z2 => z2.tail.tail) nbR_snoc_b.symm ⟨Al2.snoc (own_per (own_p3 hO) pst_rows).e ⟨⟨q, .int byte, rfl, hq.e, ⟨rfl⟩⟩⟩⟩))
  · rcases List.eq_nil_or_concat rows with rfl | ⟨rows, ⟨x, t⟩, rfl⟩
    · exact absurd (by rw [nbR_nil]; omega) hc
    · rw [List.concat_eq_append] at hO hr hp hc k
      clear hl
      obtain ⟨vs, v, rfl, h1, h2⟩ := hr.e.inv_snoc
      have hl := h1.len
      obtain ⟨r, w, rfl, h3, h4⟩ := h2.e
      have hO := per_own (φ := pt r (.tup [w, .int t])) ⟨h3⟩ pst_tup hO
      rw [List.length_append, List.length_singleton] at hp
      cases x with
      | b n =>
        have k := arr_b (byte := byte) (tick := tick) hc ▸ k
        cases (show w = .int n from h4.e)
        row_cond sl_all
        rename Own _ _ => hO
        rename_i pl pr _
        have g1 := own_per (own_p1 hO) pst_tup
        have g2 := own_per (own_p2 hO) pst_tup
        have g3 := own_per (own_p5 hO) pst_rows
        refine bl_of (decide_eq_false hc) (k _ ?_)
        refine rq_closeG (l := l) (vs := vs ++ [.ref r] ++ [.ref pr]) (n := nbR (rows ++ [(Itm.b n, t)])) ?_ nbR_snoc_l.symm ⟨g3.e.snoc ⟨⟨pr, .ref pl, rfl, g1.e, it_lost g2.e⟩⟩⟩
        row_cond sl_fin
      | lost n =>
        have k := arr_l (byte := byte) (tick := tick) hc ▸ k
        obtain ⟨q, rfl, h5⟩ := h4.e
        have hO := per_own (φ := pt q (.tup [.str "lost", .int n])) ⟨h5⟩ pst_tup hO
        row_cond sl_all
        rename Own _ _ => hO
        rename_i pl pr _
        have g1 := own_per (own_p1 hO) pst_tup
        have g2 := own_per (own_p2 hO) pst_tup
        have g3 := own_per (own_p6 hO) pst_rows
        obtain ⟨vs2, v2, e2, a2, _⟩ := g3.e.inv_snoc
        obtain ⟨rfl, _⟩ := List.append_inj' e2 rfl
        refine bl_of (decide_eq_false hc) (k _ ?_)
        refine rq_closeG (l := l) (vs := vs ++ [.ref pr]) (n := nbR (rows ++ [(Itm.lost n, t)])) ?_ (by rw [nbR_snoc_l, nbR_snoc_l]) ⟨a2.snoc ⟨⟨pr, .ref pl, rfl, g1.e, it_lost g2.e⟩⟩⟩
        row_cond sl_fin
theorem pu_ReceiveQueue_first (h : sp_ReceiveQueue_first K vs H Q E) : t_ReceiveQueue_first K (De Q) (start ["self"] vs) H := by
  obtain ⟨p, cap, rows, F, rfl, hH, k⟩ := h
  obtain ⟨l, vs, hO⟩ := rq_open hH
  clear hH
  have hr := own_per (own_p2 hO) pst_rows
  show t_ReceiveQueue_first K (De Q) [some (.ref p)] H
  unfold t_ReceiveQueue_first
  cases rows with
  | nil =>
    have e : vs = [] := List.length_eq_zero_iff.mp hr.e.len
    subst e
    row_cond sl_go
    exact k
  | cons x rows =>
    obtain ⟨v, vs, rfl, h1, h2⟩ := hr.e.inv_cons
    obtain ⟨r, w, rfl, h3, h4⟩ := h1.e
    row_cond sl_go
    exact k w h4
theorem pu_ReceiveQueue_take (h : sp_ReceiveQueue_take K vs H Q E) : t_ReceiveQueue_take K (De Q) (start ["self", "item"] vs) H := by
  obtain ⟨p, cap, rows, F, rfl, hH, k⟩ := h
  obtain ⟨l, vs, hO⟩ := rq_open hH
  clear hH
  have hr := own_per (own_p2 hO) pst_rows
  show t_ReceiveQueue_take K (De Q) [some (.ref p), none] H
  unfold t_ReceiveQueue_take
  cases rows with
  | nil =>
    have e : vs = [] := List.length_eq_zero_iff.mp hr.e.len
    subst e
    row_cond sl_go
    exact k
  | cons x rows =>
    obtain ⟨x, t⟩ := x
    obtain ⟨v, vs, rfl, h1, h2⟩ := hr.e.inv_cons
    obtain ⟨r, w, rfl, h3, h4⟩ := h1.e
    replace hO := per_own (φ := pt r (.tup [w, .int t])) ⟨h3⟩ pst_tup hO
    cases x with
    | b n =>
      cases (show w = .int n from h4.e)
      row_cond sl_all
      rename Own _ _ => hO
      obtain ⟨v2, vs2, e2, _, a2⟩ := (own_per (own_p3 hO) pst_rows).e.inv_cons
      obtain ⟨_, rfl⟩ := List.cons.inj e2
      refine k _ _ (per_own it_b pst_it (rq_closeG (l := l) (vs := vs) (n := nbR ((Itm.b n, t) :: rows) - 1) ?_ (by rw [nbR_cons_b]; omega) ⟨a2⟩))
      row_cond sl_fin
    | lost n =>
      obtain ⟨q, rfl, h5⟩ := h4.e
      replace hO := per_own (φ := pt q (.tup [.str "lost", .int n])) ⟨h5⟩ pst_tup hO
      row_cond sl_all
      rename Own _ _ => hO
      obtain ⟨v2, vs2, e2, _, a2⟩ := (own_per (own_p4 hO) pst_rows).e.inv_cons
      obtain ⟨_, rfl⟩ := List.cons.inj e2
      refine k _ _ (per_own (it_lost (own_per (own_p1 hO) pst_tup).e) pst_it (rq_closeG (l := l) (vs := vs) (n := nbR ((Itm.lost n, t) :: rows)) ?_ nbR_cons_l ⟨a2⟩))
      row_cond sl_fin
theorem pu_ReceiveQueue_oldest_tick (h : sp_ReceiveQueue_oldest_tick K vs H Q E) : t_ReceiveQueue_oldest_tick K (De Q) (start ["self"] vs) H := by
  obtain ⟨p, cap, rows, F, rfl, hH, k⟩ := h
  obtain ⟨l, vs, hO⟩ := rq_open hH
  clear hH
  have hr := own_per (own_p2 hO) pst_rows
  show t_ReceiveQueue_oldest_tick K (De Q) [some (.ref p)] H
  unfold t_ReceiveQueue_oldest_tick
  cases rows with
  | nil =>
    have e : vs = [] := List.length_eq_zero_iff.mp hr.e.len
    subst e
    row_cond sl_go
    exact k
  | cons x rows =>
    obtain ⟨v, vs, rfl, h1, h2⟩ := hr.e.inv_cons
    obtain ⟨r, w, rfl, h3, h4⟩ := h1.e
    row_cond sl_go
    exact k
theorem pu_ReceiveQueue_contents (h : sp_ReceiveQueue_contents K vs H Q E) : t_ReceiveQueue_contents K (De Q) (start ["self", "row"] vs) H := by
  obtain ⟨p, cap, rows, F, rfl, hp, hH, k⟩ := h
  obtain ⟨l, vs, hO⟩ := rq_open hH
  clear hH
  have hr := own_per (own_p2 hO) pst_rows
  have hl := hr.e.len
  show t_ReceiveQueue_contents K (De Q) [some (.ref p), none] H
  unfold t_ReceiveQueue_contents
  row_cond sl_go
  refine comp_listA rows rowA itA (fun _ _ => pst_row) (fun _ _ => pst_it) (fun _ => true) (fun r => r.1) [some (.ref p), none] (by omega) rfl hO hr (fun H' w => SqL.of (own_pt (own_p1 w))) ?_ ?_
  · intro v x G H' Y N hx hv w1 hY hN
    clear hO
    obtain ⟨r, w, rfl, h3, h4⟩ := hv.e
    row_cond sl_go
    exact hY rfl _ _ (per_own h4 pst_it w1)
  · intro acc D H' w1
    rw [filter_tt] at w1
    exact k _ _ _ (Own.cons_mono w1 fun _ z => Own.cons_mono z fun _ z => rq_close z)
end

end SL
end

section
set_option synthInstance.maxHeartbeats 400000
set_option synthInstance.maxSize 4000
set_option Elab.async false
set_option linter.all false
set_option maxRecDepth 100000
set_option maxHeartbeats 1000000
namespace SL
open PySem L2
local macro_rules | `(tactic| row_cond sl_iH) => `(tactic| (rename Own _ _ => hO0; rename Hp => hq0; intro H1 hH1; clear hO0; (try clear hq0)))
local macro_rules | `(tactic| row_cond sl_ipH) => `(tactic| (rename Own _ _ => hO0; rename Hp => hq0; intro p1 H1 hH1; clear hO0; (try clear hq0)))
local macro_rules | `(tactic| row_cond sl_ivH) => `(tactic| (rename Own _ _ => hO0; rename Hp => hq0; intro v1 H1 hv1 hv2 hH1; clear hO0; (try clear hq0)))
local macro_rules | `(tactic| row_cond sl_ix) => `(tactic| first | assumption | exact atI_0 | exact atI_1 | exact atI_2 | exact atI_3c | exact atI_4c | exact atI_5c | exact atI_6c | exact atI_7c | exact rfl)
local macro_rules | `(tactic| row_cond sl_ixn) => `(tactic| first | assumption | exact ixN_0 | exact ixN_1 | exact rfl)
local macro_rules | `(tactic| row_cond sl_new) => `(tactic| (rename Own _ _ => z0; exact z0))
local macro_rules | `(tactic| row_cond sl_own) => `(tactic| first | (rename Own _ _ => z0; first | exact z0 | exact own_p1 z0 | exact own_p2 z0 | exact own_p3 z0 | exact own_p4 z0 | exact own_p5 z0 | exact own_p6 z0 | exact own_p7 z0 | exact own_p8 z0 | exact own_p9 z0 | exact own_p10 z0 | exact own_p11 z0 | exact own_p12 z0 | exact own_p13 z0 | exact own_p14 z0 | exact own_p15 z0 | exact own_p16 z0 | exact own_p17 z0 | exact own_p18 z0 | exact own_p19 z0) | assumption | exact own_p1 (by assumption) | exact own_p2 (by assumption) | exact own_p3 (by assumption) | exact own_p4 (by assumption) | exact own_p5 (by assumption))
local macro_rules | `(tactic| row_cond sl_at) => `(tactic| first | assumption | exact own_pt (by row_cond sl_own))
local macro_rules | `(tactic| row_cond sl_ar) => `(tactic| first | assumption | omega | decide | (simp only [List.length_set, List.length_map, List.length_append, List.length_replicate, List.length_cons, List.length_nil, List.length_range, List.length_tail]; omega))
local macro_rules | `(tactic| row_cond sl_sz) => `(tactic| first | assumption | decide | (simp only [List.length_map]; omega) | (simp only [List.length_map, List.length_cons, List.length_nil, List.length_append, List.length_range, List.length_replicate, List.length_set]; omega) | omega)
local macro_rules | `(tactic| row_cond sl_hb) => `(tactic| (intro hb; (try simp only [decide_eq_true_eq, decide_eq_false_iff_not, Bool.not_eq_true', Bool.not_eq_false', Bool.not_true, Bool.not_false, Bool.true_eq_false, Bool.false_eq_true, reduceCtorEq, bne_iff_ne, beq_iff_eq, ne_eq, Classical.not_not, decide_true, decide_false, not_true_eq_false, not_false_eq_true, List.head?_cons, List.head?_nil, bne_self_eq_false, beq_self_eq_true, Option.some.injEq, false_implies, Bool.and_eq_true, Bool.or_eq_true, eq_self, List.isEmpty_nil, List.isEmpty_cons, List.append_nil, List.nil_append, Bool.and_true, Bool.true_and, Bool.and_false, Bool.false_and, Bool.or_false, Bool.or_true, Bool.false_or, Bool.true_or, and_true, true_and, and_false, false_and, Bool.bne_false, Bool.bne_true, Bool.not_eq_true] at hb); (try contradiction); (try exact absurd hb (by decide +kernel)); (try (exfalso; revert hb; (try simp only [List.length_cons, List.length_nil, List.length_map, not_true_eq_false, not_false_eq_true, false_implies]); omega))))
local macro_rules | `(tactic| row_cond sl_s1) => `(tactic| (with_reducible refine rd_go ?_))
local macro_rules | `(tactic| row_cond sl_s2) => `(tactic| first
  | ((with_reducible refine g_modI ?k1 ?_); (case k1 => row_cond sl_ar))
  | ((with_reducible refine g_divI ?k1 ?_); (case k1 => row_cond sl_ar))
  | ((with_reducible refine g_mulI ?k1 ?_); (case k1 => row_cond sl_ar))
  | ((with_reducible refine g_wp ?k1 ?_); (case k1 => exact rfl)))
local macro_rules | `(tactic| row_cond sl_s3) => `(tactic| first
  | ((with_reducible refine hd_fld ?_); (with_reducible refine h_fld1 (by row_cond sl_own) ?_))
  | ((with_reducible refine hd_st2 ?_); ((with_reducible refine h_st2 (by row_cond sl_own) ?_); row_cond sl_iH))
  | ((with_reducible refine hd_au1 ?_); (with_reducible refine h_au1 (by row_cond sl_own) ?_))
  | ((with_reducible refine hd_au3 ?_); ((with_reducible refine h_au3 (by row_cond sl_own) ?_); row_cond sl_iH))
  | ((with_reducible refine hd_meth ?_); first | (with_reducible refine h_meth1 (by row_cond sl_new) (by exact inferInstance) ?_) | (with_reducible refine h_meth1 (own_p1 (by row_cond sl_new)) (by exact inferInstance) ?_) | (with_reducible refine h_meth1 (own_p2 (by row_cond sl_new)) (by exact inferInstance) ?_) | (with_reducible refine h_meth1 (own_p3 (by row_cond sl_new)) (by exact inferInstance) ?_) | (with_reducible refine h_meth1 (own_p4 (by row_cond sl_new)) (by exact inferInstance) ?_) | (with_reducible refine h_meth1 (own_p5 (by row_cond sl_new)) (by exact inferInstance) ?_) | (with_reducible refine h_meth1 (own_p6 (by row_cond sl_new)) (by exact inferInstance) ?_) | (with_reducible refine h_meth1 (own_p7 (by row_cond sl_new)) (by exact inferInstance) ?_) | (with_reducible refine h_meth1 (own_p8 (by row_cond sl_new)) (by exact inferInstance) ?_) | (with_reducible refine h_meth1 (own_p9 (by row_cond sl_new)) (by exact inferInstance) ?_) | (with_reducible refine h_meth1 (own_p10 (by row_cond sl_new)) (by exact inferInstance) ?_) | (with_reducible refine h_meth1 (own_p11 (by row_cond sl_new)) (by exact inferInstance) ?_) | (with_reducible refine h_meth1 (own_p12 (by row_cond sl_new)) (by exact inferInstance) ?_) | (with_reducible refine h_meth1 (own_p13 (by row_cond sl_new)) (by exact inferInstance) ?_) | (with_reducible refine h_meth1 (own_p14 (by row_cond sl_new)) (by exact inferInstance) ?_) | (with_reducible refine h_meth1 (own_p15 (by row_cond sl_new)) (by exact inferInstance) ?_) | (with_reducible refine h_meth1 (own_p16 (by row_cond sl_new)) (by exact inferInstance) ?_) | (with_reducible refine h_meth1 (own_p17 (by row_cond sl_new)) (by exact inferInstance) ?_) | (with_reducible refine h_meth1 (own_p18 (by row_cond sl_new)) (by exact inferInstance) ?_) | (with_reducible refine h_meth1 (own_p19 (by row_cond sl_new)) (by exact inferInstance) ?_))
  | ((with_reducible refine hd_len ?_); first | (with_reducible refine g_lenM (by row_cond sl_at) ?_) | (with_reducible refine g_len (by row_cond sl_at) ?_) | (with_reducible refine g_lenT (by row_cond sl_at) ?_))
  | ((with_reducible refine hd_bm ?_); (with_reducible refine g_bmL (by row_cond sl_at) ?_))
  | ((with_reducible refine hd_bm0 ?_); (with_reducible refine g_bm0L (by row_cond sl_at) ?_))
  | ((with_reducible refine hd_popAt ?_); ((with_reducible refine g_popC (by row_cond sl_own) (y := ?y1) (ys := ?y2) ?k1 ?_); (case k1 => exact rfl); row_cond sl_iH))
  | ((with_reducible refine hd_app ?_); first | ((with_reducible refine g_appendM (by row_cond sl_own) ?k1 ?_); (case k1 => row_cond sl_sz); row_cond sl_iH) | ((with_reducible refine g_append (by row_cond sl_own) ?k1 ?_); (case k1 => row_cond sl_sz); row_cond sl_iH))
  | ((with_reducible refine hd_lst ?_); ((with_reducible refine g_lstA (by assumption) ?k1 ?_); (case k1 => row_cond sl_sz); row_cond sl_ipH))
  | ((with_reducible refine hd_tup ?_); ((with_reducible refine g_tupA (by assumption) ?k1 ?_); (case k1 => row_cond sl_sz); row_cond sl_ipH))
  | ((with_reducible refine hd_list ?_); ((with_reducible refine g_listOf (by row_cond sl_at) (by assumption) ?_); row_cond sl_ipH))
  | ((with_reducible refine hd_ixL ?_); first | (with_reducible refine g_ixLast (by row_cond sl_at) ?_) | (with_reducible refine g_ixM0 (by row_cond sl_at) ?_) | (with_reducible refine g_ixM1 (by row_cond sl_at) ?_) | ((with_reducible refine g_ixLM (by row_cond sl_at) ?k1 ?_); (case k1 => row_cond sl_ar)) | ((with_reducible refine g_ixL (v := ?v1) (by row_cond sl_at) ?k1 ?_); (case k1 => row_cond sl_ix)) | ((with_reducible refine g_ixIl (by row_cond sl_at) ?k1 ?_); (case k1 => row_cond sl_sz); intro v1 hv1))
  | ((with_reducible refine hd_ixT ?_); ((with_reducible refine g_ixT (v := ?v1) (by row_cond sl_at) ?k1 ?_); (case k1 => row_cond sl_ix)))
  | ((with_reducible refine hd_su2 ?_); first | ((with_reducible refine g_setC (by row_cond sl_own) ?_); row_cond sl_iH) | ((with_reducible refine g_setLast (by row_cond sl_own) ?_); row_cond sl_iH) | ((with_reducible refine g_setLM (by row_cond sl_own) ?k1 ?_); (case k1 => row_cond sl_ar); row_cond sl_iH) | ((with_reducible refine g_setOS (by row_cond sl_own) ?k1 ?_); (case k1 => row_cond sl_ar); row_cond sl_iH) | ((with_reducible refine g_setON (by row_cond sl_own) ?k1 ?_); (case k1 => row_cond sl_ar); row_cond sl_iH) | ((with_reducible refine g_setL (j := ?j1) (by row_cond sl_own) ?k1 ?_); (case k1 => row_cond sl_ixn); row_cond sl_iH))
  | ((with_reducible refine hd_slL ?_); first | ((with_reducible refine g_slB (by row_cond sl_at) (by assumption) ?_); row_cond sl_ipH) | ((with_reducible refine g_slD (by row_cond sl_at) (by assumption) ?k1 ?_); (case k1 => row_cond sl_ar); row_cond sl_ipH) | ((with_reducible refine g_slT (by row_cond sl_at) (by assumption) ?k1 ?_); (case k1 => row_cond sl_ar); row_cond sl_ipH) | ((with_reducible refine g_slDv (by row_cond sl_at) (by assumption) ?k1 ?_); (case k1 => row_cond sl_ar); row_cond sl_ipH) | ((with_reducible refine g_slTv (by row_cond sl_at) (by assumption) ?k1 ?_); (case k1 => row_cond sl_ar); row_cond sl_ipH) | ((with_reducible refine g_slice (by row_cond sl_at) (by assumption) ?_); row_cond sl_ipH) | ((with_reducible refine g_sliceS (by row_cond sl_own) ?_); row_cond sl_ipH))
  | ((with_reducible refine hd_listI ?_); (with_reducible refine g_iListS (by row_cond sl_own) ?_))
  | ((with_reducible refine hd_len ?_); (with_reducible refine g_lenSq (by row_cond sl_own) ?_))
  | ((with_reducible refine hd_gtup ?_); ((with_reducible refine g_gtup (by row_cond sl_at) ?k1 ?_); (case k1 => exact rfl)))
  | ((with_reducible refine hd_listI ?_); (with_reducible refine g_iList1 (by row_cond sl_at) ?_))
  | ((with_reducible refine hd_tupI ?_); (with_reducible refine g_iTup1 (by row_cond sl_at) ?_))
  | ((with_reducible refine hd_rng1 ?_); first | ((with_reducible refine g_iRng1N ?k1 ?_); (case k1 => row_cond sl_ar)) | ((with_reducible refine g_iRng1A ?k1 ?_); (case k1 => row_cond sl_ar)))
  | ((with_reducible refine hd_rng2 ?_); ((with_reducible refine g_iRng2A ?k1 ?_); (case k1 => row_cond sl_ar)))
  | ((with_reducible refine hd_make ?_); ((with_reducible refine g_makeA (by assumption) ?_); row_cond sl_ipH))
  | ((with_reducible refine hd_isi ?_); first | (with_reducible refine g_isiLL (by row_cond sl_at) ?_) | (with_reducible refine g_isiTT (by row_cond sl_at) ?_) | (with_reducible refine g_isiLT (by row_cond sl_at) ?_) | (with_reducible refine g_isiTL (by row_cond sl_at) ?_) | (with_reducible refine g_isiLI (by row_cond sl_at) ?_) | (with_reducible refine g_isiTI (by row_cond sl_at) ?_) | (with_reducible refine g_isiTB (by row_cond sl_at) ?_))
  | ((with_reducible refine hd_eqD ?_); ((with_reducible refine g_eqD (by row_cond sl_dt) (by row_cond sl_dt) ?k1 ?_); (case k1 => decide)))
  | ((with_reducible refine hd_neD ?_); ((with_reducible refine g_neD (by row_cond sl_dt) (by row_cond sl_dt) ?k1 ?_); (case k1 => decide)))
  | ((with_reducible refine hd_rep ?_); first | ((with_reducible refine g_repB (by row_cond sl_at) (by assumption) ?k1 ?_); (case k1 => row_cond sl_ar); row_cond sl_ipH) | ((with_reducible refine g_repI (by row_cond sl_at) (by assumption) ?k1 ?_); (case k1 => row_cond sl_ar); row_cond sl_ipH) | ((with_reducible refine g_repN (by row_cond sl_at) (by assumption) ?k1 ?_); (case k1 => row_cond sl_ar); row_cond sl_ipH))
  | ((with_reducible refine hd_cat ?_); first | ((with_reducible refine g_catM (by row_cond sl_at) (by row_cond sl_at) (by assumption) ?k1 ?_); (case k1 => row_cond sl_sz); row_cond sl_ipH) | ((with_reducible refine g_cat (by row_cond sl_at) (by row_cond sl_at) (by assumption) ?k1 ?_); (case k1 => row_cond sl_sz); row_cond sl_ipH))
  | ((with_reducible refine hd_ext ?_); first | ((with_reducible refine g_extendM (by row_cond sl_own) (by row_cond sl_at) ?k1 ?_); (case k1 => row_cond sl_sz); row_cond sl_iH) | ((with_reducible refine g_extend (by row_cond sl_own) (by row_cond sl_at) ?k1 ?_); (case k1 => row_cond sl_sz); row_cond sl_iH))
  | ((with_reducible refine hd_pop ?_); (with_reducible refine g_pop (by row_cond sl_own) ?_); row_cond sl_iH)
  | ((with_reducible refine hd_dg2 ?_); (with_reducible refine g_dgetF (j := ?j1) (by row_cond sl_own) ?k1 ?_); (case k1 => row_cond sl_ix))
  | ((with_reducible refine hd_d21 ?_); (with_reducible refine g_d21F (by row_cond sl_own) ?_))
  | ((with_reducible refine hd_d23 ?_); (with_reducible refine g_d23F (by row_cond sl_own) ?_))
  | ((with_reducible refine hd_dp3 ?_); first | ((with_reducible refine g_dputF (by row_cond sl_own) ?k1 ?_); (case k1 => row_cond sl_ar); row_cond sl_iH) | ((with_reducible refine g_dputE (z := ?z1) (by row_cond sl_own) ?k1 ?_); (case k1 => assumption); row_cond sl_iH))
  | ((with_reducible refine hd_dnew ?_); (with_reducible refine g_dnew (by assumption) ?_); row_cond sl_ipH)
  | ((with_reducible refine hd_sum ?_); (with_reducible refine g_sumI (by row_cond sl_at) ?_))
  | ((with_reducible refine hd_all ?_); (with_reducible refine g_allB (by row_cond sl_at) ?_))
  | ((with_reducible refine hd_max ?_); (with_reducible refine g_maxI (by row_cond sl_at) ?k1 ?_); (case k1 => row_cond sl_ar); intro m1 hm1)
  | ((with_reducible refine hd_min ?_); (with_reducible refine g_minI (by row_cond sl_at) ?k1 ?_); (case k1 => row_cond sl_ar); intro m1 hm1)
  | (row_cond sl_use))
local macro_rules | `(tactic| row_cond sl_s4) => `(tactic| first
  | ((with_reducible refine g_ifS1 ?_ ?_) <;> row_cond sl_hb)
  | ((with_reducible refine g_and1 ?_ ?_) <;> row_cond sl_hb)
  | ((with_reducible refine g_or1 ?_ ?_) <;> row_cond sl_hb)
  | ((with_reducible refine g_andV1 ?_ ?_) <;> row_cond sl_hb)
  | ((with_reducible refine g_orV1 ?_ ?_) <;> row_cond sl_hb)
  | ((with_reducible refine g_if1 ?_ ?_) <;> row_cond sl_hb)
  | ((with_reducible refine g_wh ?_ ?_) <;> row_cond sl_hb)
  | ((with_reducible refine g_ci ?_ ?_) <;> row_cond sl_hb))
local macro_rules | `(tactic| row_cond sl_go) => `(tactic| repeat' (first | row_cond sl_s1 | row_cond sl_s3 | row_cond sl_s4 | row_cond sl_s2))
local macro_rules | `(tactic| row_cond sl_all) => `(tactic| repeat' (first | row_cond sl_s1 | row_cond sl_s3 | row_cond sl_s4 | row_cond sl_s2 | (with_reducible refine g_thru ?_)))
local macro_rules | `(tactic| row_cond sl_drop) => `(tactic| first | assumption | ((rename Own _ _ => z0); (repeat (first | exact z0 | (replace z0 := Own.tail z0))); done))
local macro_rules | `(tactic| row_cond sl_close) => `(tactic| fail)
local macro_rules | `(tactic| row_cond sl_fin1) => `(tactic| first | ((refine Own.cons_mono (by row_cond sl_own) ?_); intro h1 z1) | row_cond sl_close)
local macro_rules | `(tactic| row_cond sl_fin) => `(tactic| ((repeat row_cond sl_fin1); row_cond sl_drop))
local macro_rules | `(tactic| row_cond sl_dt) => `(tactic| first | assumption | exact is_ints (by row_cond sl_at) | exact is_bls (by row_cond sl_at) | exact is_lit (by row_cond sl_at) | exact is_int | exact is_it (it_lost (by row_cond sl_at)) | exact is_its (by row_cond sl_at) (own_per (by row_cond sl_own) pst_its) | exact is_slts (by row_cond sl_own2))
local macro_rules | `(tactic| row_cond sl_own2) => `(tactic| exact Own.cons_mono (by row_cond sl_own) (fun h z => by row_cond sl_own))
local macro_rules | `(tactic| row_cond sl_own3) => `(tactic| exact Own.cons_mono (by row_cond sl_own) (fun h z => by row_cond sl_own2))
local macro_rules | `(tactic| row_cond sl_own4) => `(tactic| exact Own.cons_mono (by row_cond sl_own) (fun h z => by row_cond sl_own3))
local macro_rules | `(tactic| row_cond sl_own5) => `(tactic| exact Own.cons_mono (by row_cond sl_own) (fun h z => by row_cond sl_own4))
local macro_rules | `(tactic| row_cond sl_own6) => `(tactic| exact Own.cons_mono (by row_cond sl_own) (fun h z => by row_cond sl_own5))
local macro_rules | `(tactic| row_cond sl_own7) => `(tactic| exact Own.cons_mono (by row_cond sl_own) (fun h z => by row_cond sl_own6))
local macro_rules | `(tactic| row_cond sl_own8) => `(tactic| exact Own.cons_mono (by row_cond sl_own) (fun h z => by row_cond sl_own7))
local macro_rules | `(tactic| row_cond sl_own9) => `(tactic| exact Own.cons_mono (by row_cond sl_own) (fun h z => by row_cond sl_own8))
local macro_rules | `(tactic| row_cond sl_own10) => `(tactic| exact Own.cons_mono (by row_cond sl_own) (fun h z => by row_cond sl_own9))
local macro_rules | `(tactic| row_cond sl_own11) => `(tactic| exact Own.cons_mono (by row_cond sl_own) (fun h z => by row_cond sl_own10))
local macro_rules | `(tactic| row_cond sl_own12) => `(tactic| exact Own.cons_mono (by row_cond sl_own) (fun h z => by row_cond sl_own11))
local macro_rules | `(tactic| row_cond sl_w) => `(tactic| (try simp only [wipe, List.set_cons_succ, List.set_cons_zero]))

/-! ## draw -/
/-- the law's state: cells left to be drawn from, a seed -/
structure stA (p : Addr) (h : Hp) : Prop where
  e : ∃ (l : Addr) (cells : List Int) (seed : Int), (∀ c ∈ cells, (0 : Int) ≤ c) ∧ al [pt p (.lst [.ref l, .int seed]), pt l (.lst (cells.map V.int))] h
theorem st_open {p : Addr} {F : List Atom} {H : Hp} (x : Own H (stA p :: F)) : ∃ (l : Addr) (cells : List Int) (seed : Int), (∀ c ∈ cells, (0 : Int) ≤ c) ∧ Own H (pt p (.lst [.ref l, .int seed]) :: pt l (.lst (cells.map V.int)) :: F) := by
  obtain ⟨l, y⟩ := own_ex (x.mono1 fun _ q => q.e)
  obtain ⟨cells, y⟩ := own_ex y
  obtain ⟨seed, y⟩ := own_ex y
  obtain ⟨h, ⟨c, _⟩, _⟩ := y.at1
  exact ⟨l, cells, seed, c, own_in (y.mono1 fun _ q => q.2)⟩
theorem st_close {p l : Addr} {cells : List Int} {seed : Int} {F : List Atom} {H : Hp} (c : ∀ c ∈ cells, (0 : Int) ≤ c) (x : Own H (pt p (.lst [.ref l, .int seed]) :: pt l (.lst (cells.map V.int)) :: F)) : Own H (stA p :: F) :=
  (own_out (cs := [pt p (.lst [.ref l, .int seed]), pt l (.lst (cells.map V.int))]) x).mono1 fun _ q => ⟨⟨l, cells, seed, c, q⟩⟩
def sp__law_state (K : PySem.W.Frag) : Sp := fun vs H Q _ => ∃ (a : Addr) (ns : List Int) (F : List Atom), vs = [.ref a] ∧ ns.length ≤ 63 ∧ Own H (sq K a (ns.map V.int) :: F) ∧ ∀ p H', Own H' (stA p :: sq K a (ns.map V.int) :: F) → Q (.ref p) H'
theorem hd_sp__law_state {K : PySem.W.Frag} {vs : List V} {H : Hp} {Q : VK} {E : XK} (k : sp__law_state K vs H Q E) : sp__law_state K vs H Q E := k
def sp__law_draw (K : PySem.W.Frag) : Sp := fun vs H Q _ => ∃ p n F, vs = [.ref p, .int n] ∧ 0 < n ∧ n < 1073741824 ∧ Own H (stA p :: F) ∧ ∀ v H', 0 ≤ v → v < n → Own H' (stA p :: F) → Q (.int v) H'
theorem hd_sp__law_draw {K : PySem.W.Frag} {vs : List V} {H : Hp} {Q : VK} {E : XK} (k : sp__law_draw K vs H Q E) : sp__law_draw K vs H Q E := k
theorem use__law_draw {K : PySem.W.Frag} {p : Addr} {n : Int} {F : List Atom} {H : Hp} {Q : VK} {E : XK} (x : Own H (stA p :: F)) (h : 0 < n ∧ n < 1073741824) (k : ∀ v H', 0 ≤ v → v < n → Own H' (stA p :: F) → Q (.int v) H') : sp__law_draw K [.ref p, .int n] H Q E := ⟨p, n, F, rfl, h.1, h.2, x, k⟩
theorem use__law_state {K : PySem.W.Frag} {a : Addr} {ns : List Int} {F : List Atom} {H : Hp} {Q : VK} {E : XK} (x : Own H (sq K a (ns.map V.int) :: F)) (h : ns.length ≤ 63) (k : ∀ p H', Own H' (stA p :: sq K a (ns.map V.int) :: F) → Q (.ref p) H') : sp__law_state K [.ref a] H Q E := ⟨a, ns, F, rfl, h, x, k⟩

local macro_rules | `(tactic| row_cond sl_use) => `(tactic| ((with_reducible refine hd_sp__law_draw ?_); (with_reducible refine use__law_draw (by row_cond sl_own) ?k1 ?_); (case k1 => row_cond sl_ar); row_cond sl_ivH))
local macro_rules | `(tactic| row_cond sl_use) => `(tactic| ((with_reducible refine hd_sp__law_state ?_); (with_reducible refine use__law_state (by row_cond sl_own) ?k1 ?_); (case k1 => row_cond sl_ar); row_cond sl_ipH))


noncomputable def t__law_state (K : PySem.W.Frag) : TS :=
  tSeq (tAsg (tC (.int 7)) (gName 1))
  (tSeq (tFor (iList K (tVar 0)) (gName 2) (tAsg (tOp rModI (tCB rInt (tCons (tOp rAddI (tOp rMulI (tVar 1) (tC (.int 31))) (tVar 2)) (tNil))) (tC (.int 1000003))) (gName 1)))
  (tRet (tLst (tCons (tLc (iList K (tVar 0)) (gName 2) (tYes) (tCB rAbs (tCons (tVar 2) (tNil))) [2]) (tCons (tOp rAddI (tVar 1) (tC (.int 1))) (tNil))))))
noncomputable def t__law_draw (K : PySem.W.Frag) : TS :=
  tSeq (tAsg (tOp (rIxL K) (tVar 0) (tC (.int 0))) (gName 2))
  (tSeq (tWhile (tAnd (tTest (tOp rGtI (tCB (rLen K) (tCons (tVar 2) (tNil))) (tC (.int 0)))) (tTest (tOp rEq (tOp (rIxL K) (tVar 2) (tC (.int 0))) (tC (.int 0))))) (tDrop (tBM K "list" rPopAt (tVar 2) (tCons (tC (.int 0)) (tNil)))))
  (tSeq (tIfS (tTest (tOp rGtI (tCB (rLen K) (tCons (tVar 2) (tNil))) (tC (.int 0)))) (tSeq (tAsg (tOp (rIxL K) (tVar 2) (tC (.int 0))) (gName 3))
  (tSeq (tAsg (tOp rDivI (tVar 3) (tVar 1)) (gSub (tVar 2) (tC (.int 0)) rSetL))
  (tRet (tOp rModI (tCB rInt (tCons (tVar 3) (tNil))) (tVar 1))))) (tNext))
  (tSeq (tAsg (tOp rModI (tCB rInt (tCons (tOp rAddI (tOp rMulI (tOp (rIxL K) (tVar 0) (tC (.int 1))) (tC (.int 48271))) (tC (.int 12345))) (tNil))) (tC (.int 2147483647))) (gName 4))
  (tSeq (tAsg (tVar 4) (gSub (tVar 0) (tC (.int 1)) rSetL))
  (tRet (tOp rModI (tCB rInt (tCons (tOp rDivI (tVar 4) (tC (.int 64))) (tNil))) (tVar 1)))))))
section
variable {K : PySem.W.Frag} {vs : List V} {H : Hp} {Q : VK} {E : XK}
theorem pu__law_draw (h : sp__law_draw K vs H Q E) : t__law_draw K (De Q) (start ["_law_state_here", "_law_many", "_law_cells", "_law_value", "_law_mixed"] vs) H := by
  obtain ⟨p, n, F, rfl, h1, h2, hH, k⟩ := h
  obtain ⟨l, cells, seed, hc, hO⟩ := st_open hH
  clear hH
  show t__law_draw K (De Q) [some (.ref p), some (.int n), none, none, none] H
  unfold t__law_draw
  row_cond sl_go
  refine loop_while (fun m σ' H' => σ' = [some (.ref p), some (.int n), some (.ref l), none, none] ∧ ∃ cs : List Int, cs.length = m ∧ (∀ c ∈ cs, (0 : Int) ≤ c) ∧ Own H' (pt p (.lst [.ref l, .int seed]) :: pt l (.lst (cs.map V.int)) :: F)) cells.length ⟨rfl, cells, rfl, hc, hO⟩ ?_
  rintro m σ' H1 ⟨rfl, cs, rfl, hc1, hO1⟩
  clear hO hc
  cases cs with
  | nil =>
    row_cond sl_go
    exact k _ _ (Int.emod_nonneg _ (by omega)) (Int.emod_lt_of_pos _ (by omega)) (st_close hc1 (by row_cond sl_own))
  | cons c cs =>
    have c0 : 0 ≤ c := hc1 c (List.mem_cons_self ..)
    have hc2 : ∀ z ∈ cs, (0 : Int) ≤ z := fun z hz => hc1 z (List.mem_cons_of_mem _ hz)
    row_cond sl_go
    · exact ⟨cs.length, Nat.lt_succ_self _, rfl, cs, rfl, hc2, by row_cond sl_own⟩
    · have hc3 : ∀ z ∈ c / n :: cs, (0 : Int) ≤ z := fun z hz => by
        rcases List.mem_cons.mp hz with e | hz
        · rw [e]
          exact Int.ediv_nonneg c0 (by omega)
        · exact hc2 z hz
      exact k _ _ (Int.emod_nonneg _ (by omega)) (Int.emod_lt_of_pos _ (by omega)) (st_close hc3 (own_p1 (by assumption)))
theorem pu__law_state (h : sp__law_state K vs H Q E) : t__law_state K (De Q) (start ["_law_script", "_law_seed", "_law_cell"] vs) H := by
  obtain ⟨a, ns, F, rfl, hl, hH, k⟩ := h
  show t__law_state K (De Q) [some (.ref a), none, none] H
  unfold t__law_state
  row_cond sl_go
  refine loop_listS (xs := ns.map V.int) (fun i σ' H' => ∃ (seed : Int) (v : Option V), σ' = [some (.ref a), some (.int seed), v] ∧ Own H' (sq K a (ns.map V.int) :: F)) ⟨7, none, rfl, hH⟩ (fun i σ' H' ⟨_, _, _, z⟩ => own_sq z) ?_ ?_
  · rintro i x σ' H' hi ⟨seed, v, rfl, z⟩
    obtain ⟨n, hn, rfl⟩ : ∃ n, ns[i]? = some n ∧ x = V.int n := by
      rw [List.getElem?_map] at hi
      cases e : ns[i]? with
      | none => rw [e] at hi; cases hi
      | some n => rw [e] at hi; exact ⟨n, rfl, (Option.some.inj hi).symm⟩
    clear hH
    row_cond sl_go
    exact ⟨_, _, rfl, z⟩
  · rintro σ' H' ⟨seed, v, rfl, z⟩
    clear hH
    row_cond sl_go
    refine comp_list (xs := ns.map V.int) [some (.ref a), some (.int seed), none] (by rw [List.length_map]; omega) rfl (fun i acc => pu (∃ cs : List Int, acc = cs.map V.int ∧ ∀ c ∈ cs, (0 : Int) ≤ c) :: sq K a (ns.map V.int) :: F) (own_put ⟨[], rfl, fun _ h => nomatch h⟩ z) (fun i acc H' w => own_sq w.tail) ?_ ?_
    · rintro i x acc G H1 Y N hi hl w hY hN
      obtain ⟨n, hn, rfl⟩ : ∃ n, ns[i]? = some n ∧ x = V.int n := by
        rw [List.getElem?_map] at hi
        cases e : ns[i]? with
        | none => rw [e] at hi; cases hi
        | some n => rw [e] at hi; exact ⟨n, rfl, (Option.some.inj hi).symm⟩
      clear z
      row_cond sl_go
      refine hY _ _ ?_
      obtain ⟨⟨cs, rfl, hc⟩, w2⟩ := own_pu (own_p1 w)
      refine Own.swap (own_put ⟨cs ++ [if n < 0 then -n else n], by rw [List.map_append]; rfl, fun c hc' => ?_⟩ w2)
      rcases List.mem_append.mp hc' with h | h
      · exact hc c h
      · rw [List.mem_singleton.mp h]
        split <;> omega
    · rintro acc D H1 hl w
      clear z
      obtain ⟨⟨cs, rfl, hc⟩, w2⟩ := own_pu (own_p1 w)
      clear w
      row_cond sl_go
      exact k _ _ (st_close hc (by row_cond sl_own))
end

end SL
end

section
set_option synthInstance.maxHeartbeats 400000
set_option synthInstance.maxSize 4000
set_option Elab.async false
set_option linter.all false
set_option maxRecDepth 100000
set_option maxHeartbeats 1000000
namespace SL
open PySem L2
local macro_rules | `(tactic| row_cond sl_iH) => `(tactic| (rename Own _ _ => hO0; rename Hp => hq0; intro H1 hH1; clear hO0; (try clear hq0)))
local macro_rules | `(tactic| row_cond sl_ipH) => `(tactic| (rename Own _ _ => hO0; rename Hp => hq0; intro p1 H1 hH1; clear hO0; (try clear hq0)))
local macro_rules | `(tactic| row_cond sl_ivH) => `(tactic| (rename Own _ _ => hO0; rename Hp => hq0; intro v1 H1 hv1 hv2 hH1; clear hO0; (try clear hq0)))
local macro_rules | `(tactic| row_cond sl_ix) => `(tactic| first | assumption | exact atI_0 | exact atI_1 | exact atI_2 | exact atI_3c | exact atI_4c | exact atI_5c | exact atI_6c | exact atI_7c | exact rfl)
local macro_rules | `(tactic| row_cond sl_ixn) => `(tactic| first | assumption | exact ixN_0 | exact ixN_1 | exact rfl)
local macro_rules | `(tactic| row_cond sl_new) => `(tactic| (rename Own _ _ => z0; exact z0))
local macro_rules | `(tactic| row_cond sl_own) => `(tactic| first | (rename Own _ _ => z0; first | exact z0 | exact own_p1 z0 | exact own_p2 z0 | exact own_p3 z0 | exact own_p4 z0 | exact own_p5 z0 | exact own_p6 z0 | exact own_p7 z0 | exact own_p8 z0 | exact own_p9 z0 | exact own_p10 z0 | exact own_p11 z0 | exact own_p12 z0 | exact own_p13 z0 | exact own_p14 z0 | exact own_p15 z0 | exact own_p16 z0 | exact own_p17 z0 | exact own_p18 z0 | exact own_p19 z0) | assumption | exact own_p1 (by assumption) | exact own_p2 (by assumption) | exact own_p3 (by assumption) | exact own_p4 (by assumption) | exact own_p5 (by assumption))
local macro_rules | `(tactic| row_cond sl_at) => `(tactic| first | assumption | exact own_pt (by row_cond sl_own))
local macro_rules | `(tactic| row_cond sl_ar) => `(tactic| first | assumption | omega | decide | (simp only [List.length_set, List.length_map, List.length_append, List.length_replicate, List.length_cons, List.length_nil, List.length_range, List.length_tail]; omega))
local macro_rules | `(tactic| row_cond sl_sz) => `(tactic| first | assumption | decide | (simp only [List.length_map]; omega) | (simp only [List.length_map, List.length_cons, List.length_nil, List.length_append, List.length_range, List.length_replicate, List.length_set]; omega) | omega)
local macro_rules | `(tactic| row_cond sl_hb) => `(tactic| (intro hb; (try simp only [decide_eq_true_eq, decide_eq_false_iff_not, Bool.not_eq_true', Bool.not_eq_false', Bool.not_true, Bool.not_false, Bool.true_eq_false, Bool.false_eq_true, reduceCtorEq, bne_iff_ne, beq_iff_eq, ne_eq, Classical.not_not, decide_true, decide_false, not_true_eq_false, not_false_eq_true, List.head?_cons, List.head?_nil, bne_self_eq_false, beq_self_eq_true, Option.some.injEq, false_implies, Bool.and_eq_true, Bool.or_eq_true, eq_self, List.isEmpty_nil, List.isEmpty_cons, List.append_nil, List.nil_append, Bool.and_true, Bool.true_and, Bool.and_false, Bool.false_and, Bool.or_false, Bool.or_true, Bool.false_or, Bool.true_or, and_true, true_and, and_false, false_and, Bool.bne_false, Bool.bne_true, Bool.not_eq_true] at hb); (try contradiction); (try exact absurd hb (by decide +kernel)); (try (exfalso; revert hb; (try simp only [List.length_cons, List.length_nil, List.length_map, not_true_eq_false, not_false_eq_true, false_implies]); omega))))
local macro_rules | `(tactic| row_cond sl_s1) => `(tactic| (with_reducible refine rd_go ?_))
local macro_rules | `(tactic| row_cond sl_s2) => `(tactic| first
  | ((with_reducible refine g_modI ?k1 ?_); (case k1 => row_cond sl_ar))
  | ((with_reducible refine g_divI ?k1 ?_); (case k1 => row_cond sl_ar))
  | ((with_reducible refine g_mulI ?k1 ?_); (case k1 => row_cond sl_ar))
  | ((with_reducible refine g_wp ?k1 ?_); (case k1 => exact rfl)))
local macro_rules | `(tactic| row_cond sl_s3) => `(tactic| first
  | ((with_reducible refine hd_fld ?_); (with_reducible refine h_fld1 (by row_cond sl_own) ?_))
  | ((with_reducible refine hd_st2 ?_); ((with_reducible refine h_st2 (by row_cond sl_own) ?_); row_cond sl_iH))
  | ((with_reducible refine hd_au1 ?_); (with_reducible refine h_au1 (by row_cond sl_own) ?_))
  | ((with_reducible refine hd_au3 ?_); ((with_reducible refine h_au3 (by row_cond sl_own) ?_); row_cond sl_iH))
  | ((with_reducible refine hd_meth ?_); first | (with_reducible refine h_meth1 (by row_cond sl_new) (by exact inferInstance) ?_) | (with_reducible refine h_meth1 (own_p1 (by row_cond sl_new)) (by exact inferInstance) ?_) | (with_reducible refine h_meth1 (own_p2 (by row_cond sl_new)) (by exact inferInstance) ?_) | (with_reducible refine h_meth1 (own_p3 (by row_cond sl_new)) (by exact inferInstance) ?_) | (with_reducible refine h_meth1 (own_p4 (by row_cond sl_new)) (by exact inferInstance) ?_) | (with_reducible refine h_meth1 (own_p5 (by row_cond sl_new)) (by exact inferInstance) ?_) | (with_reducible refine h_meth1 (own_p6 (by row_cond sl_new)) (by exact inferInstance) ?_) | (with_reducible refine h_meth1 (own_p7 (by row_cond sl_new)) (by exact inferInstance) ?_) | (with_reducible refine h_meth1 (own_p8 (by row_cond sl_new)) (by exact inferInstance) ?_) | (with_reducible refine h_meth1 (own_p9 (by row_cond sl_new)) (by exact inferInstance) ?_) | (with_reducible refine h_meth1 (own_p10 (by row_cond sl_new)) (by exact inferInstance) ?_) | (with_reducible refine h_meth1 (own_p11 (by row_cond sl_new)) (by exact inferInstance) ?_) | (with_reducible refine h_meth1 (own_p12 (by row_cond sl_new)) (by exact inferInstance) ?_) | (with_reducible refine h_meth1 (own_p13 (by row_cond sl_new)) (by exact inferInstance) ?_) | (with_reducible refine h_meth1 (own_p14 (by row_cond sl_new)) (by exact inferInstance) ?_) | (with_reducible refine h_meth1 (own_p15 (by row_cond sl_new)) (by exact inferInstance) ?_) | (with_reducible refine h_meth1 (own_p16 (by row_cond sl_new)) (by exact inferInstance) ?_) | (with_reducible refine h_meth1 (own_p17 (by row_cond sl_new)) (by exact inferInstance) ?_) | (with_reducible refine h_meth1 (own_p18 (by row_cond sl_new)) (by exact inferInstance) ?_) | (with_reducible refine h_meth1 (own_p19 (by row_cond sl_new)) (by exact inferInstance) ?_))
  | ((with_reducible refine hd_len ?_); first | (with_reducible refine g_lenM (by row_cond sl_at) ?_) | (with_reducible refine g_len (by row_cond sl_at) ?_) | (with_reducible refine g_lenT (by row_cond sl_at) ?_))
  | ((with_reducible refine hd_bm ?_); (with_reducible refine g_bmL (by row_cond sl_at) ?_))
  | ((with_reducible refine hd_bm0 ?_); (with_reducible refine g_bm0L (by row_cond sl_at) ?_))
  | ((with_reducible refine hd_popAt ?_); ((with_reducible refine g_popC (by row_cond sl_own) (y := ?y1) (ys := ?y2) ?k1 ?_); (case k1 => exact rfl); row_cond sl_iH))
  | ((with_reducible refine hd_app ?_); first | ((with_reducible refine g_appendM (by row_cond sl_own) ?k1 ?_); (case k1 => row_cond sl_sz); row_cond sl_iH) | ((with_reducible refine g_append (by row_cond sl_own) ?k1 ?_); (case k1 => row_cond sl_sz); row_cond sl_iH))
  | ((with_reducible refine hd_lst ?_); ((with_reducible refine g_lstA (by assumption) ?k1 ?_); (case k1 => row_cond sl_sz); row_cond sl_ipH))
  | ((with_reducible refine hd_tup ?_); ((with_reducible refine g_tupA (by assumption) ?k1 ?_); (case k1 => row_cond sl_sz); row_cond sl_ipH))
  | ((with_reducible refine hd_list ?_); ((with_reducible refine g_listOf (by row_cond sl_at) (by assumption) ?_); row_cond sl_ipH))
  | ((with_reducible refine hd_ixL ?_); first | (with_reducible refine g_ixLast (by row_cond sl_at) ?_) | (with_reducible refine g_ixM0 (by row_cond sl_at) ?_) | (with_reducible refine g_ixM1 (by row_cond sl_at) ?_) | ((with_reducible refine g_ixLM (by row_cond sl_at) ?k1 ?_); (case k1 => row_cond sl_ar)) | ((with_reducible refine g_ixL (v := ?v1) (by row_cond sl_at) ?k1 ?_); (case k1 => row_cond sl_ix)) | ((with_reducible refine g_ixIl (by row_cond sl_at) ?k1 ?_); (case k1 => row_cond sl_sz); intro v1 hv1))
  | ((with_reducible refine hd_ixT ?_); ((with_reducible refine g_ixT (v := ?v1) (by row_cond sl_at) ?k1 ?_); (case k1 => row_cond sl_ix)))
  | ((with_reducible refine hd_su2 ?_); first | ((with_reducible refine g_setC (by row_cond sl_own) ?_); row_cond sl_iH) | ((with_reducible refine g_setLast (by row_cond sl_own) ?_); row_cond sl_iH) | ((with_reducible refine g_setLM (by row_cond sl_own) ?k1 ?_); (case k1 => row_cond sl_ar); row_cond sl_iH) | ((with_reducible refine g_setOS (by row_cond sl_own) ?k1 ?_); (case k1 => row_cond sl_ar); row_cond sl_iH) | ((with_reducible refine g_setON (by row_cond sl_own) ?k1 ?_); (case k1 => row_cond sl_ar); row_cond sl_iH) | ((with_reducible refine g_setL (j := ?j1) (by row_cond sl_own) ?k1 ?_); (case k1 => row_cond sl_ixn); row_cond sl_iH))
  | ((with_reducible refine hd_slL ?_); first | ((with_reducible refine g_slB (by row_cond sl_at) (by assumption) ?_); row_cond sl_ipH) | ((with_reducible refine g_slD (by row_cond sl_at) (by assumption) ?k1 ?_); (case k1 => row_cond sl_ar); row_cond sl_ipH) | ((with_reducible refine g_slT (by row_cond sl_at) (by assumption) ?k1 ?_); (case k1 => row_cond sl_ar); row_cond sl_ipH) | ((with_reducible refine g_slDv (by row_cond sl_at) (by assumption) ?k1 ?_); (case k1 => row_cond sl_ar); row_cond sl_ipH) | ((with_reducible refine g_slTv (by row_cond sl_at) (by assumption) ?k1 ?_); (case k1 => row_cond sl_ar); row_cond sl_ipH) | ((with_reducible refine g_slice (by row_cond sl_at) (by assumption) ?_); row_cond sl_ipH) | ((with_reducible refine g_sliceS (by row_cond sl_own) ?_); row_cond sl_ipH))
  | ((with_reducible refine hd_listI ?_); (with_reducible refine g_iListS (by row_cond sl_own) ?_))
  | ((with_reducible refine hd_len ?_); (with_reducible refine g_lenSq (by row_cond sl_own) ?_))
  | ((with_reducible refine hd_gtup ?_); ((with_reducible refine g_gtup (by row_cond sl_at) ?k1 ?_); (case k1 => exact rfl)))
  | ((with_reducible refine hd_listI ?_); (with_reducible refine g_iList1 (by row_cond sl_at) ?_))
  | ((with_reducible refine hd_tupI ?_); (with_reducible refine g_iTup1 (by row_cond sl_at) ?_))
  | ((with_reducible refine hd_rng1 ?_); first | ((with_reducible refine g_iRng1N ?k1 ?_); (case k1 => row_cond sl_ar)) | ((with_reducible refine g_iRng1A ?k1 ?_); (case k1 => row_cond sl_ar)))
  | ((with_reducible refine hd_rng2 ?_); ((with_reducible refine g_iRng2A ?k1 ?_); (case k1 => row_cond sl_ar)))
  | ((with_reducible refine hd_make ?_); ((with_reducible refine g_makeA (by assumption) ?_); row_cond sl_ipH))
  | ((with_reducible refine hd_isi ?_); first | (with_reducible refine g_isiLL (by row_cond sl_at) ?_) | (with_reducible refine g_isiTT (by row_cond sl_at) ?_) | (with_reducible refine g_isiLT (by row_cond sl_at) ?_) | (with_reducible refine g_isiTL (by row_cond sl_at) ?_) | (with_reducible refine g_isiLI (by row_cond sl_at) ?_) | (with_reducible refine g_isiTI (by row_cond sl_at) ?_) | (with_reducible refine g_isiTB (by row_cond sl_at) ?_))
  | ((with_reducible refine hd_eqD ?_); ((with_reducible refine g_eqD (by row_cond sl_dt) (by row_cond sl_dt) ?k1 ?_); (case k1 => decide)))
  | ((with_reducible refine hd_neD ?_); ((with_reducible refine g_neD (by row_cond sl_dt) (by row_cond sl_dt) ?k1 ?_); (case k1 => decide)))
  | ((with_reducible refine hd_rep ?_); first | ((with_reducible refine g_repB (by row_cond sl_at) (by assumption) ?k1 ?_); (case k1 => row_cond sl_ar); row_cond sl_ipH) | ((with_reducible refine g_repI (by row_cond sl_at) (by assumption) ?k1 ?_); (case k1 => row_cond sl_ar); row_cond sl_ipH) | ((with_reducible refine g_repN (by row_cond sl_at) (by assumption) ?k1 ?_); (case k1 => row_cond sl_ar); row_cond sl_ipH))
  | ((with_reducible refine hd_cat ?_); first | ((with_reducible refine g_catM (by row_cond sl_at) (by row_cond sl_at) (by assumption) ?k1 ?_); (case k1 => row_cond sl_sz); row_cond sl_ipH) | ((with_reducible refine g_cat (by row_cond sl_at) (by row_cond sl_at) (by assumption) ?k1 ?_); (case k1 => row_cond sl_sz); row_cond sl_ipH))
  | ((with_reducible refine hd_ext ?_); first | ((with_reducible refine g_extendM (by row_cond sl_own) (by row_cond sl_at) ?k1 ?_); (case k1 => row_cond sl_sz); row_cond sl_iH) | ((with_reducible refine g_extend (by row_cond sl_own) (by row_cond sl_at) ?k1 ?_); (case k1 => row_cond sl_sz); row_cond sl_iH))
  | ((with_reducible refine hd_pop ?_); (with_reducible refine g_pop (by row_cond sl_own) ?_); row_cond sl_iH)
  | ((with_reducible refine hd_dg2 ?_); (with_reducible refine g_dgetF (j := ?j1) (by row_cond sl_own) ?k1 ?_); (case k1 => row_cond sl_ix))
  | ((with_reducible refine hd_d21 ?_); (with_reducible refine g_d21F (by row_cond sl_own) ?_))
  | ((with_reducible refine hd_d23 ?_); (with_reducible refine g_d23F (by row_cond sl_own) ?_))
  | ((with_reducible refine hd_dp3 ?_); first | ((with_reducible refine g_dputF (by row_cond sl_own) ?k1 ?_); (case k1 => row_cond sl_ar); row_cond sl_iH) | ((with_reducible refine g_dputE (z := ?z1) (by row_cond sl_own) ?k1 ?_); (case k1 => assumption); row_cond sl_iH))
  | ((with_reducible refine hd_dnew ?_); (with_reducible refine g_dnew (by assumption) ?_); row_cond sl_ipH)
  | ((with_reducible refine hd_sum ?_); (with_reducible refine g_sumI (by row_cond sl_at) ?_))
  | ((with_reducible refine hd_all ?_); (with_reducible refine g_allB (by row_cond sl_at) ?_))
  | ((with_reducible refine hd_max ?_); (with_reducible refine g_maxI (by row_cond sl_at) ?k1 ?_); (case k1 => row_cond sl_ar); intro m1 hm1)
  | ((with_reducible refine hd_min ?_); (with_reducible refine g_minI (by row_cond sl_at) ?k1 ?_); (case k1 => row_cond sl_ar); intro m1 hm1)
  | (row_cond sl_use))
local macro_rules | `(tactic| row_cond sl_s4) => `(tactic| first
  | ((with_reducible refine g_ifS1 ?_ ?_) <;> row_cond sl_hb)
  | ((with_reducible refine g_and1 ?_ ?_) <;> row_cond sl_hb)
  | ((with_reducible refine g_or1 ?_ ?_) <;> row_cond sl_hb)
  | ((with_reducible refine g_andV1 ?_ ?_) <;> row_cond sl_hb)
  | ((with_reducible refine g_orV1 ?_ ?_) <;> row_cond sl_hb)
  | ((with_reducible refine g_if1 ?_ ?_) <;> row_cond sl_hb)
  | ((with_reducible refine g_wh ?_ ?_) <;> row_cond sl_hb)
  | ((with_reducible refine g_ci ?_ ?_) <;> row_cond sl_hb))
local macro_rules | `(tactic| row_cond sl_go) => `(tactic| repeat' (first | row_cond sl_s1 | row_cond sl_s3 | row_cond sl_s4 | row_cond sl_s2))
local macro_rules | `(tactic| row_cond sl_all) => `(tactic| repeat' (first | row_cond sl_s1 | row_cond sl_s3 | row_cond sl_s4 | row_cond sl_s2 | (with_reducible refine g_thru ?_)))
local macro_rules | `(tactic| row_cond sl_drop) => `(tactic| first | assumption | ((rename Own _ _ => z0); (repeat (first | exact z0 | (replace z0 := Own.tail z0))); done))
local macro_rules | `(tactic| row_cond sl_close) => `(tactic| fail)
local macro_rules | `(tactic| row_cond sl_fin1) => `(tactic| first | ((refine Own.cons_mono (by row_cond sl_own) ?_); intro h1 z1) | row_cond sl_close)
local macro_rules | `(tactic| row_cond sl_fin) => `(tactic| ((repeat row_cond sl_fin1); row_cond sl_drop))
local macro_rules | `(tactic| row_cond sl_dt) => `(tactic| first | assumption | exact is_ints (by row_cond sl_at) | exact is_bls (by row_cond sl_at) | exact is_lit (by row_cond sl_at) | exact is_int | exact is_it (it_lost (by row_cond sl_at)) | exact is_its (by row_cond sl_at) (own_per (by row_cond sl_own) pst_its) | exact is_slts (by row_cond sl_own2))
local macro_rules | `(tactic| row_cond sl_own2) => `(tactic| exact Own.cons_mono (by row_cond sl_own) (fun h z => by row_cond sl_own))
local macro_rules | `(tactic| row_cond sl_own3) => `(tactic| exact Own.cons_mono (by row_cond sl_own) (fun h z => by row_cond sl_own2))
local macro_rules | `(tactic| row_cond sl_own4) => `(tactic| exact Own.cons_mono (by row_cond sl_own) (fun h z => by row_cond sl_own3))
local macro_rules | `(tactic| row_cond sl_own5) => `(tactic| exact Own.cons_mono (by row_cond sl_own) (fun h z => by row_cond sl_own4))
local macro_rules | `(tactic| row_cond sl_own6) => `(tactic| exact Own.cons_mono (by row_cond sl_own) (fun h z => by row_cond sl_own5))
local macro_rules | `(tactic| row_cond sl_own7) => `(tactic| exact Own.cons_mono (by row_cond sl_own) (fun h z => by row_cond sl_own6))
local macro_rules | `(tactic| row_cond sl_own8) => `(tactic| exact Own.cons_mono (by row_cond sl_own) (fun h z => by row_cond sl_own7))
local macro_rules | `(tactic| row_cond sl_own9) => `(tactic| exact Own.cons_mono (by row_cond sl_own) (fun h z => by row_cond sl_own8))
local macro_rules | `(tactic| row_cond sl_own10) => `(tactic| exact Own.cons_mono (by row_cond sl_own) (fun h z => by row_cond sl_own9))
local macro_rules | `(tactic| row_cond sl_own11) => `(tactic| exact Own.cons_mono (by row_cond sl_own) (fun h z => by row_cond sl_own10))
local macro_rules | `(tactic| row_cond sl_own12) => `(tactic| exact Own.cons_mono (by row_cond sl_own) (fun h z => by row_cond sl_own11))
local macro_rules | `(tactic| row_cond sl_w) => `(tactic| (try simp only [wipe, List.set_cons_succ, List.set_cons_zero]))

/-! ## pick -/
def sp__law_pick (K : PySem.W.Frag) : Sp := fun vs H Q _ => ∃ (p r : Addr) (xs : List Int) (F : List Atom), vs = [.ref p, .ref r] ∧ (0 < xs.length ∧ xs.length < 1000) ∧ Own H (stA p :: pt r (.lst (xs.map V.int)) :: F) ∧ ∀ v H', v ∈ xs → Own H' (stA p :: pt r (.lst (xs.map V.int)) :: F) → Q (.int v) H'
theorem hd_sp__law_pick {K : PySem.W.Frag} {vs : List V} {H : Hp} {Q : VK} {E : XK} (k : sp__law_pick K vs H Q E) : sp__law_pick K vs H Q E := k
theorem use__law_pick {K : PySem.W.Frag} {p r : Addr} {ys : List V} {xs : List Int} {F : List Atom} {H : Hp} {Q : VK} {E : XK} (x : Own H (stA p :: pt r (.lst ys) :: F)) [i : Il ys xs] (h : 0 < xs.length ∧ xs.length < 1000) (k : ∀ v H', v ∈ xs → Own H' (stA p :: pt r (.lst ys) :: F) → Q (.int v) H') : sp__law_pick K [.ref p, .ref r] H Q E := by
  have e := i.h
  subst e
  exact ⟨p, r, xs, F, rfl, h, x, k⟩
noncomputable def t__law_pick (K : PySem.W.Frag) : TS :=
  tRet (tOp (rIxL K) (tVar 1) (tCall (sp__law_draw K) [] C8.E0 (tCons (tVar 0) (tCons (tCB (rLen K) (tCons (tVar 1) (tNil))) (tNil)))))

local macro_rules | `(tactic| row_cond sl_use) => `(tactic| ((with_reducible refine hd_sp__law_draw ?_); (with_reducible refine use__law_draw (by row_cond sl_own) ?k1 ?_); (case k1 => row_cond sl_ar); row_cond sl_ivH))
local macro_rules | `(tactic| row_cond sl_use) => `(tactic| ((with_reducible refine hd_sp__law_state ?_); (with_reducible refine use__law_state (by row_cond sl_own) ?k1 ?_); (case k1 => row_cond sl_ar); row_cond sl_ipH))



local macro_rules | `(tactic| row_cond sl_use) => `(tactic| ((with_reducible refine hd_sp__law_pick ?_); (with_reducible refine use__law_pick (by row_cond sl_own2) ?k1 ?_); (case k1 => row_cond sl_sz); (rename Own _ _ => hO0; rename Hp => hq0; intro v1 H1 hv1 hH1; clear hO0; (try clear hq0); (try simp only [List.mem_cons, List.mem_singleton, List.not_mem_nil, or_false] at hv1))))


section
variable {K : PySem.W.Frag} {vs : List V} {H : Hp} {Q : VK} {E : XK}
theorem pu__law_pick (h : sp__law_pick K vs H Q E) : t__law_pick K (De Q) (start ["_law_state_here", "_law_row"] vs) H := by
  obtain ⟨p, r, xs, F, rfl, hp, hH, k⟩ := h
  show t__law_pick K (De Q) [some (.ref p), some (.ref r)] H
  unfold t__law_pick
  row_cond sl_go
  exact k _ _ (at0_mem (by omega)) (by assumption)
end

end SL
end

section
set_option synthInstance.maxHeartbeats 400000
set_option synthInstance.maxSize 4000
set_option Elab.async false
set_option linter.all false
set_option maxRecDepth 100000
set_option maxHeartbeats 1000000
namespace SL
open PySem L2
local macro_rules | `(tactic| row_cond sl_iH) => `(tactic| (rename Own _ _ => hO0; rename Hp => hq0; intro H1 hH1; clear hO0; (try clear hq0)))
local macro_rules | `(tactic| row_cond sl_ipH) => `(tactic| (rename Own _ _ => hO0; rename Hp => hq0; intro p1 H1 hH1; clear hO0; (try clear hq0)))
local macro_rules | `(tactic| row_cond sl_ivH) => `(tactic| (rename Own _ _ => hO0; rename Hp => hq0; intro v1 H1 hv1 hv2 hH1; clear hO0; (try clear hq0)))
local macro_rules | `(tactic| row_cond sl_ix) => `(tactic| first | assumption | exact atI_0 | exact atI_1 | exact atI_2 | exact atI_3c | exact atI_4c | exact atI_5c | exact atI_6c | exact atI_7c | exact rfl)
local macro_rules | `(tactic| row_cond sl_ixn) => `(tactic| first | assumption | exact ixN_0 | exact ixN_1 | exact rfl)
local macro_rules | `(tactic| row_cond sl_new) => `(tactic| (rename Own _ _ => z0; exact z0))
local macro_rules | `(tactic| row_cond sl_own) => `(tactic| first | (rename Own _ _ => z0; first | exact z0 | exact own_p1 z0 | exact own_p2 z0 | exact own_p3 z0 | exact own_p4 z0 | exact own_p5 z0 | exact own_p6 z0 | exact own_p7 z0 | exact own_p8 z0 | exact own_p9 z0 | exact own_p10 z0 | exact own_p11 z0 | exact own_p12 z0 | exact own_p13 z0 | exact own_p14 z0 | exact own_p15 z0 | exact own_p16 z0 | exact own_p17 z0 | exact own_p18 z0 | exact own_p19 z0) | assumption | exact own_p1 (by assumption) | exact own_p2 (by assumption) | exact own_p3 (by assumption) | exact own_p4 (by assumption) | exact own_p5 (by assumption))
local macro_rules | `(tactic| row_cond sl_at) => `(tactic| first | assumption | exact own_pt (by row_cond sl_own))
local macro_rules | `(tactic| row_cond sl_ar) => `(tactic| first | assumption | omega | decide | (simp only [List.length_set, List.length_map, List.length_append, List.length_replicate, List.length_cons, List.length_nil, List.length_range, List.length_tail]; omega))
local macro_rules | `(tactic| row_cond sl_sz) => `(tactic| first | assumption | decide | (simp only [List.length_map]; omega) | (simp only [List.length_map, List.length_cons, List.length_nil, List.length_append, List.length_range, List.length_replicate, List.length_set]; omega) | omega)
local macro_rules | `(tactic| row_cond sl_hb) => `(tactic| (intro hb; (try simp only [decide_eq_true_eq, decide_eq_false_iff_not, Bool.not_eq_true', Bool.not_eq_false', Bool.not_true, Bool.not_false, Bool.true_eq_false, Bool.false_eq_true, reduceCtorEq, bne_iff_ne, beq_iff_eq, ne_eq, Classical.not_not, decide_true, decide_false, not_true_eq_false, not_false_eq_true, List.head?_cons, List.head?_nil, bne_self_eq_false, beq_self_eq_true, Option.some.injEq, false_implies, Bool.and_eq_true, Bool.or_eq_true, eq_self, List.isEmpty_nil, List.isEmpty_cons, List.append_nil, List.nil_append, Bool.and_true, Bool.true_and, Bool.and_false, Bool.false_and, Bool.or_false, Bool.or_true, Bool.false_or, Bool.true_or, and_true, true_and, and_false, false_and, Bool.bne_false, Bool.bne_true, Bool.not_eq_true] at hb); (try contradiction); (try exact absurd hb (by decide +kernel)); (try (exfalso; revert hb; (try simp only [List.length_cons, List.length_nil, List.length_map, not_true_eq_false, not_false_eq_true, false_implies]); omega))))
local macro_rules | `(tactic| row_cond sl_s1) => `(tactic| (with_reducible refine rd_go ?_))
local macro_rules | `(tactic| row_cond sl_s2) => `(tactic| first
  | ((with_reducible refine g_modI ?k1 ?_); (case k1 => row_cond sl_ar))
  | ((with_reducible refine g_divI ?k1 ?_); (case k1 => row_cond sl_ar))
  | ((with_reducible refine g_mulI ?k1 ?_); (case k1 => row_cond sl_ar))
  | ((with_reducible refine g_wp ?k1 ?_); (case k1 => exact rfl)))
local macro_rules | `(tactic| row_cond sl_s3) => `(tactic| first
  | ((with_reducible refine hd_fld ?_); (with_reducible refine h_fld1 (by row_cond sl_own) ?_))
  | ((with_reducible refine hd_st2 ?_); ((with_reducible refine h_st2 (by row_cond sl_own) ?_); row_cond sl_iH))
  | ((with_reducible refine hd_au1 ?_); (with_reducible refine h_au1 (by row_cond sl_own) ?_))
  | ((with_reducible refine hd_au3 ?_); ((with_reducible refine h_au3 (by row_cond sl_own) ?_); row_cond sl_iH))
  | ((with_reducible refine hd_meth ?_); first | (with_reducible refine h_meth1 (by row_cond sl_new) (by exact inferInstance) ?_) | (with_reducible refine h_meth1 (own_p1 (by row_cond sl_new)) (by exact inferInstance) ?_) | (with_reducible refine h_meth1 (own_p2 (by row_cond sl_new)) (by exact inferInstance) ?_) | (with_reducible refine h_meth1 (own_p3 (by row_cond sl_new)) (by exact inferInstance) ?_) | (with_reducible refine h_meth1 (own_p4 (by row_cond sl_new)) (by exact inferInstance) ?_) | (with_reducible refine h_meth1 (own_p5 (by row_cond sl_new)) (by exact inferInstance) ?_) | (with_reducible refine h_meth1 (own_p6 (by row_cond sl_new)) (by exact inferInstance) ?_) | (with_reducible refine h_meth1 (own_p7 (by row_cond sl_new)) (by exact inferInstance) ?_) | (with_reducible refine h_meth1 (own_p8 (by row_cond sl_new)) (by exact inferInstance) ?_) | (with_reducible refine h_meth1 (own_p9 (by row_cond sl_new)) (by exact inferInstance) ?_) | (with_reducible refine h_meth1 (own_p10 (by row_cond sl_new)) (by exact inferInstance) ?_) | (with_reducible refine h_meth1 (own_p11 (by row_cond sl_new)) (by exact inferInstance) ?_) | (with_reducible refine h_meth1 (own_p12 (by row_cond sl_new)) (by exact inferInstance) ?_) | (with_reducible refine h_meth1 (own_p13 (by row_cond sl_new)) (by exact inferInstance) ?_) | (with_reducible refine h_meth1 (own_p14 (by row_cond sl_new)) (by exact inferInstance) ?_) | (with_reducible refine h_meth1 (own_p15 (by row_cond sl_new)) (by exact inferInstance) ?_) | (with_reducible refine h_meth1 (own_p16 (by row_cond sl_new)) (by exact inferInstance) ?_) | (with_reducible refine h_meth1 (own_p17 (by row_cond sl_new)) (by exact inferInstance) ?_) | (with_reducible refine h_meth1 (own_p18 (by row_cond sl_new)) (by exact inferInstance) ?_) | (with_reducible refine h_meth1 (own_p19 (by row_cond sl_new)) (by exact inferInstance) ?_))
  | ((with_reducible refine hd_len ?_); first | (with_reducible refine g_lenM (by row_cond sl_at) ?_) | (with_reducible refine g_len (by row_cond sl_at) ?_) | (with_reducible refine g_lenT (by row_cond sl_at) ?_))
  | ((with_reducible refine hd_bm ?_); (with_reducible refine g_bmL (by row_cond sl_at) ?_))
  | ((with_reducible refine hd_bm0 ?_); (with_reducible refine g_bm0L (by row_cond sl_at) ?_))
  | ((with_reducible refine hd_popAt ?_); ((with_reducible refine g_popC (by row_cond sl_own) (y := ?y1) (ys := ?y2) ?k1 ?_); (case k1 => exact rfl); row_cond sl_iH))
  | ((with_reducible refine hd_app ?_); first | ((with_reducible refine g_appendM (by row_cond sl_own) ?k1 ?_); (case k1 => row_cond sl_sz); row_cond sl_iH) | ((with_reducible refine g_append (by row_cond sl_own) ?k1 ?_); (case k1 => row_cond sl_sz); row_cond sl_iH))
  | ((with_reducible refine hd_lst ?_); ((with_reducible refine g_lstA (by assumption) ?k1 ?_); (case k1 => row_cond sl_sz); row_cond sl_ipH))
  | ((with_reducible refine hd_tup ?_); ((with_reducible refine g_tupA (by assumption) ?k1 ?_); (case k1 => row_cond sl_sz); row_cond sl_ipH))
  | ((with_reducible refine hd_list ?_); ((with_reducible refine g_listOf (by row_cond sl_at) (by assumption) ?_); row_cond sl_ipH))
  | ((with_reducible refine hd_ixL ?_); first | (with_reducible refine g_ixLast (by row_cond sl_at) ?_) | (with_reducible refine g_ixM0 (by row_cond sl_at) ?_) | (with_reducible refine g_ixM1 (by row_cond sl_at) ?_) | ((with_reducible refine g_ixLM (by row_cond sl_at) ?k1 ?_); (case k1 => row_cond sl_ar)) | ((with_reducible refine g_ixL (v := ?v1) (by row_cond sl_at) ?k1 ?_); (case k1 => row_cond sl_ix)) | ((with_reducible refine g_ixIl (by row_cond sl_at) ?k1 ?_); (case k1 => row_cond sl_sz); intro v1 hv1))
  | ((with_reducible refine hd_ixT ?_); ((with_reducible refine g_ixT (v := ?v1) (by row_cond sl_at) ?k1 ?_); (case k1 => row_cond sl_ix)))
  | ((with_reducible refine hd_su2 ?_); first | ((with_reducible refine g_setC (by row_cond sl_own) ?_); row_cond sl_iH) | ((with_reducible refine g_setLast (by row_cond sl_own) ?_); row_cond sl_iH) | ((with_reducible refine g_setLM (by row_cond sl_own) ?k1 ?_); (case k1 => row_cond sl_ar); row_cond sl_iH) | ((with_reducible refine g_setOS (by row_cond sl_own) ?k1 ?_); (case k1 => row_cond sl_ar); row_cond sl_iH) | ((with_reducible refine g_setON (by row_cond sl_own) ?k1 ?_); (case k1 => row_cond sl_ar); row_cond sl_iH) | ((with_reducible refine g_setL (j := ?j1) (by row_cond sl_own) ?k1 ?_); (case k1 => row_cond sl_ixn); row_cond sl_iH))
  | ((with_reducible refine hd_slL ?_); first | ((with_reducible refine g_slB (by row_cond sl_at) (by assumption) ?_); row_cond sl_ipH) | ((with_reducible refine g_slD (by row_cond sl_at) (by assumption) ?k1 ?_); (case k1 => row_cond sl_ar); row_cond sl_ipH) | ((with_reducible refine g_slT (by row_cond sl_at) (by assumption) ?k1 ?_); (case k1 => row_cond sl_ar); row_cond sl_ipH) | ((with_reducible refine g_slDv (by row_cond sl_at) (by assumption) ?k1 ?_); (case k1 => row_cond sl_ar); row_cond sl_ipH) | ((with_reducible refine g_slTv (by row_cond sl_at) (by assumption) ?k1 ?_); (case k1 => row_cond sl_ar); row_cond sl_ipH) | ((with_reducible refine g_slice (by row_cond sl_at) (by assumption) ?_); row_cond sl_ipH) | ((with_reducible refine g_sliceS (by row_cond sl_own) ?_); row_cond sl_ipH))
  | ((with_reducible refine hd_listI ?_); (with_reducible refine g_iListS (by row_cond sl_own) ?_))
  | ((with_reducible refine hd_len ?_); (with_reducible refine g_lenSq (by row_cond sl_own) ?_))
  | ((with_reducible refine hd_gtup ?_); ((with_reducible refine g_gtup (by row_cond sl_at) ?k1 ?_); (case k1 => exact rfl)))
  | ((with_reducible refine hd_listI ?_); (with_reducible refine g_iList1 (by row_cond sl_at) ?_))
  | ((with_reducible refine hd_tupI ?_); (with_reducible refine g_iTup1 (by row_cond sl_at) ?_))
  | ((with_reducible refine hd_rng1 ?_); first | ((with_reducible refine g_iRng1N ?k1 ?_); (case k1 => row_cond sl_ar)) | ((with_reducible refine g_iRng1A ?k1 ?_); (case k1 => row_cond sl_ar)))
  | ((with_reducible refine hd_rng2 ?_); ((with_reducible refine g_iRng2A ?k1 ?_); (case k1 => row_cond sl_ar)))
  | ((with_reducible refine hd_make ?_); ((with_reducible refine g_makeA (by assumption) ?_); row_cond sl_ipH))
  | ((with_reducible refine hd_isi ?_); first | (with_reducible refine g_isiLL (by row_cond sl_at) ?_) | (with_reducible refine g_isiTT (by row_cond sl_at) ?_) | (with_reducible refine g_isiLT (by row_cond sl_at) ?_) | (with_reducible refine g_isiTL (by row_cond sl_at) ?_) | (with_reducible refine g_isiLI (by row_cond sl_at) ?_) | (with_reducible refine g_isiTI (by row_cond sl_at) ?_) | (with_reducible refine g_isiTB (by row_cond sl_at) ?_))
  | ((with_reducible refine hd_eqD ?_); ((with_reducible refine g_eqD (by row_cond sl_dt) (by row_cond sl_dt) ?k1 ?_); (case k1 => decide)))
  | ((with_reducible refine hd_neD ?_); ((with_reducible refine g_neD (by row_cond sl_dt) (by row_cond sl_dt) ?k1 ?_); (case k1 => decide)))
  | ((with_reducible refine hd_rep ?_); first | ((with_reducible refine g_repB (by row_cond sl_at) (by assumption) ?k1 ?_); (case k1 => row_cond sl_ar); row_cond sl_ipH) | ((with_reducible refine g_repI (by row_cond sl_at) (by assumption) ?k1 ?_); (case k1 => row_cond sl_ar); row_cond sl_ipH) | ((with_reducible refine g_repN (by row_cond sl_at) (by assumption) ?k1 ?_); (case k1 => row_cond sl_ar); row_cond sl_ipH))
  | ((with_reducible refine hd_cat ?_); first | ((with_reducible refine g_catM (by row_cond sl_at) (by row_cond sl_at) (by assumption) ?k1 ?_); (case k1 => row_cond sl_sz); row_cond sl_ipH) | ((with_reducible refine g_cat (by row_cond sl_at) (by row_cond sl_at) (by assumption) ?k1 ?_); (case k1 => row_cond sl_sz); row_cond sl_ipH))
  | ((with_reducible refine hd_ext ?_); first | ((with_reducible refine g_extendM (by row_cond sl_own) (by row_cond sl_at) ?k1 ?_); (case k1 => row_cond sl_sz); row_cond sl_iH) | ((with_reducible refine g_extend (by row_cond sl_own) (by row_cond sl_at) ?k1 ?_); (case k1 => row_cond sl_sz); row_cond sl_iH))
  | ((with_reducible refine hd_pop ?_); (with_reducible refine g_pop (by row_cond sl_own) ?_); row_cond sl_iH)
  | ((with_reducible refine hd_dg2 ?_); (with_reducible refine g_dgetF (j := ?j1) (by row_cond sl_own) ?k1 ?_); (case k1 => row_cond sl_ix))
  | ((with_reducible refine hd_d21 ?_); (with_reducible refine g_d21F (by row_cond sl_own) ?_))
  | ((with_reducible refine hd_d23 ?_); (with_reducible refine g_d23F (by row_cond sl_own) ?_))
  | ((with_reducible refine hd_dp3 ?_); first | ((with_reducible refine g_dputF (by row_cond sl_own) ?k1 ?_); (case k1 => row_cond sl_ar); row_cond sl_iH) | ((with_reducible refine g_dputE (z := ?z1) (by row_cond sl_own) ?k1 ?_); (case k1 => assumption); row_cond sl_iH))
  | ((with_reducible refine hd_dnew ?_); (with_reducible refine g_dnew (by assumption) ?_); row_cond sl_ipH)
  | ((with_reducible refine hd_sum ?_); (with_reducible refine g_sumI (by row_cond sl_at) ?_))
  | ((with_reducible refine hd_all ?_); (with_reducible refine g_allB (by row_cond sl_at) ?_))
  | ((with_reducible refine hd_max ?_); (with_reducible refine g_maxI (by row_cond sl_at) ?k1 ?_); (case k1 => row_cond sl_ar); intro m1 hm1)
  | ((with_reducible refine hd_min ?_); (with_reducible refine g_minI (by row_cond sl_at) ?k1 ?_); (case k1 => row_cond sl_ar); intro m1 hm1)
  | (row_cond sl_use))
local macro_rules | `(tactic| row_cond sl_s4) => `(tactic| first
  | ((with_reducible refine g_ifS1 ?_ ?_) <;> row_cond sl_hb)
  | ((with_reducible refine g_and1 ?_ ?_) <;> row_cond sl_hb)
  | ((with_reducible refine g_or1 ?_ ?_) <;> row_cond sl_hb)
  | ((with_reducible refine g_andV1 ?_ ?_) <;> row_cond sl_hb)
  | ((with_reducible refine g_orV1 ?_ ?_) <;> row_cond sl_hb)
  | ((with_reducible refine g_if1 ?_ ?_) <;> row_cond sl_hb)
  | ((with_reducible refine g_wh ?_ ?_) <;> row_cond sl_hb)
  | ((with_reducible refine g_ci ?_ ?_) <;> row_cond sl_hb))
local macro_rules | `(tactic| row_cond sl_go) => `(tactic| repeat' (first | row_cond sl_s1 | row_cond sl_s3 | row_cond sl_s4 | row_cond sl_s2))
local macro_rules | `(tactic| row_cond sl_all) => `(tactic| repeat' (first | row_cond sl_s1 | row_cond sl_s3 | row_cond sl_s4 | row_cond sl_s2 | (with_reducible refine g_thru ?_)))
local macro_rules | `(tactic| row_cond sl_drop) => `(tactic| first | assumption | ((rename Own _ _ => z0); (repeat (first | exact z0 | (replace z0 := Own.tail z0))); done))
local macro_rules | `(tactic| row_cond sl_close) => `(tactic| fail)
local macro_rules | `(tactic| row_cond sl_fin1) => `(tactic| first | ((refine Own.cons_mono (by row_cond sl_own) ?_); intro h1 z1) | row_cond sl_close)
local macro_rules | `(tactic| row_cond sl_fin) => `(tactic| ((repeat row_cond sl_fin1); row_cond sl_drop))
local macro_rules | `(tactic| row_cond sl_dt) => `(tactic| first | assumption | exact is_ints (by row_cond sl_at) | exact is_bls (by row_cond sl_at) | exact is_lit (by row_cond sl_at) | exact is_int | exact is_it (it_lost (by row_cond sl_at)) | exact is_its (by row_cond sl_at) (own_per (by row_cond sl_own) pst_its) | exact is_slts (by row_cond sl_own2))
local macro_rules | `(tactic| row_cond sl_own2) => `(tactic| exact Own.cons_mono (by row_cond sl_own) (fun h z => by row_cond sl_own))
local macro_rules | `(tactic| row_cond sl_own3) => `(tactic| exact Own.cons_mono (by row_cond sl_own) (fun h z => by row_cond sl_own2))
local macro_rules | `(tactic| row_cond sl_own4) => `(tactic| exact Own.cons_mono (by row_cond sl_own) (fun h z => by row_cond sl_own3))
local macro_rules | `(tactic| row_cond sl_own5) => `(tactic| exact Own.cons_mono (by row_cond sl_own) (fun h z => by row_cond sl_own4))
local macro_rules | `(tactic| row_cond sl_own6) => `(tactic| exact Own.cons_mono (by row_cond sl_own) (fun h z => by row_cond sl_own5))
local macro_rules | `(tactic| row_cond sl_own7) => `(tactic| exact Own.cons_mono (by row_cond sl_own) (fun h z => by row_cond sl_own6))
local macro_rules | `(tactic| row_cond sl_own8) => `(tactic| exact Own.cons_mono (by row_cond sl_own) (fun h z => by row_cond sl_own7))
local macro_rules | `(tactic| row_cond sl_own9) => `(tactic| exact Own.cons_mono (by row_cond sl_own) (fun h z => by row_cond sl_own8))
local macro_rules | `(tactic| row_cond sl_own10) => `(tactic| exact Own.cons_mono (by row_cond sl_own) (fun h z => by row_cond sl_own9))
local macro_rules | `(tactic| row_cond sl_own11) => `(tactic| exact Own.cons_mono (by row_cond sl_own) (fun h z => by row_cond sl_own10))
local macro_rules | `(tactic| row_cond sl_own12) => `(tactic| exact Own.cons_mono (by row_cond sl_own) (fun h z => by row_cond sl_own11))
local macro_rules | `(tactic| row_cond sl_w) => `(tactic| (try simp only [wipe, List.set_cons_succ, List.set_cons_zero]))

/-! ## law08 -/
/-- the law's own row: a list of an item and its tick -/
structure rwA (r : Addr) (x : Itm × Int) (h : Hp) : Prop where
  e : ∃ w, al [pt r (.lst [w, .int x.2]), itA w x.1] h
theorem rw_open {r : Addr} {x : Itm × Int} {F : List Atom} {H : Hp} (z : Own H (rwA r x :: F)) : ∃ w, itA w x.1 H ∧ Own H (pt r (.lst [w, .int x.2]) :: F) := by
  obtain ⟨w, y⟩ := own_ex (z.mono1 fun _ q => q.e)
  have y2 := own_in y
  exact ⟨w, own_per (own_p1 y2) pst_it, Own.cons_mono y2 fun _ z => z.tail⟩
theorem rw_close {r : Addr} {x : Itm} {t : Int} {w : V} {F : List Atom} {H : Hp} (i : itA w x H) (z : Own H (pt r (.lst [w, .int t]) :: F)) : Own H (rwA r (x, t) :: F) :=
  Own.mono1 (own_out (cs := [pt r (.lst [w, .int t]), itA w x]) (own_p1 (per_own i pst_it z))) fun _ q => ⟨⟨w, q⟩⟩
/-- an item or None -/
def oiA (w : V) (x : Option Itm) (h : Hp) : Prop := match x with
  | none => w = .non
  | some x => itA w x h
theorem oi_vO {o : Option Int} {h : Hp} : oiA (vO o) (o.map Itm.b) h := by
  cases o with
  | none => rfl
  | some i => exact it_b
def sp__law_is_integer (K : PySem.W.Frag) : Sp := fun vs H Q _ => ∃ n : Int, vs = [.int n] ∧ Q (.bl true) H
theorem hd_sp__law_is_integer {K : PySem.W.Frag} {vs : List V} {H : Hp} {Q : VK} {E : XK} (k : sp__law_is_integer K vs H Q E) : sp__law_is_integer K vs H Q E := k
def sp__law_same0 (K : PySem.W.Frag) : Sp := fun vs H Q _ => ∃ n : Int, vs = [.int n, .int n] ∧ Q (.bl true) H
theorem hd_sp__law_same0 {K : PySem.W.Frag} {vs : List V} {H : Hp} {Q : VK} {E : XK} (k : sp__law_same0 K vs H Q E) : sp__law_same0 K vs H Q E := k
def sp__law_same (K : PySem.W.Frag) : Sp := fun vs H Q _ => ∃ (w u : V) (x : Option Itm), vs = [w, u] ∧ oiA w x H ∧ oiA u x H ∧ Q (.bl true) H
theorem hd_sp__law_same {K : PySem.W.Frag} {vs : List V} {H : Hp} {Q : VK} {E : XK} (k : sp__law_same K vs H Q E) : sp__law_same K vs H Q E := k
def sp__law_held (K : PySem.W.Frag) : Sp := fun vs H Q _ => ∃ (l : Addr) (rs : List Addr) (rows : List (Itm × Int)) (F : List Atom), vs = [.ref l] ∧ (rows.length ≤ 100000) ∧ Own H (pt l (.lst (rs.map V.ref)) :: bgA rwA rs rows :: F) ∧ ∀  H', Own H' (pt l (.lst (rs.map V.ref)) :: bgA rwA rs rows :: F) → Q (.int (nbR rows)) H'
theorem hd_sp__law_held {K : PySem.W.Frag} {vs : List V} {H : Hp} {Q : VK} {E : XK} (k : sp__law_held K vs H Q E) : sp__law_held K vs H Q E := k
theorem use__law_held {K : PySem.W.Frag} {l : Addr} {rs : List Addr} {rows : List (Itm × Int)} {F : List Atom} {H : Hp} {Q : VK} {E : XK} (x0 : Own H (pt l (.lst (rs.map V.ref)) :: bgA rwA rs rows :: F)) (hp : rows.length ≤ 100000) (k : ∀  H', Own H' (pt l (.lst (rs.map V.ref)) :: bgA rwA rs rows :: F) → Q (.int (nbR rows)) H') : sp__law_held K [.ref l] H Q E := ⟨l, rs, rows, F, rfl, hp, x0, k⟩
def sp__law_agrees (K : PySem.W.Frag) : Sp := fun vs H Q _ => ∃ (q l : Addr) (cap : Int) (rs : List Addr) (rows : List (Itm × Int)) (F : List Atom), vs = [.ref q, .ref l, .int cap] ∧ (rows.length ≤ 100000) ∧ Own H (rqA K q cap rows :: pt l (.lst (rs.map V.ref)) :: bgA rwA rs rows :: F) ∧ ∀  H', Own H' (rqA K q cap rows :: pt l (.lst (rs.map V.ref)) :: bgA rwA rs rows :: F) → Q (.bl true) H'
theorem hd_sp__law_agrees {K : PySem.W.Frag} {vs : List V} {H : Hp} {Q : VK} {E : XK} (k : sp__law_agrees K vs H Q E) : sp__law_agrees K vs H Q E := k
theorem use__law_agrees {K : PySem.W.Frag} {q l : Addr} {cap : Int} {rs : List Addr} {rows : List (Itm × Int)} {F : List Atom} {H : Hp} {Q : VK} {E : XK} (x0 : Own H (rqA K q cap rows :: pt l (.lst (rs.map V.ref)) :: bgA rwA rs rows :: F)) (hp : rows.length ≤ 100000) (k : ∀  H', Own H' (rqA K q cap rows :: pt l (.lst (rs.map V.ref)) :: bgA rwA rs rows :: F) → Q (.bl true) H') : sp__law_agrees K [.ref q, .ref l, .int cap] H Q E := ⟨q, l, cap, rs, rows, F, rfl, hp, x0, k⟩
def sp__law_arrives (K : PySem.W.Frag) : Sp := fun vs H Q _ => ∃ (q l : Addr) (cap byte tick : Int) (rs : List Addr) (rows : List (Itm × Int)) (F : List Atom), vs = [.ref q, .ref l, .int cap, .int byte, .int tick] ∧ (rows.length ≤ 100000 ∧ 0 < cap) ∧ Own H (rqA K q cap rows :: pt l (.lst (rs.map V.ref)) :: bgA rwA rs rows :: F) ∧ ∀ (rs2 : List Addr) (rows2 : List (Itm × Int)) H', (rows2.length ≤ rows.length + 1) → Own H' (rqA K q cap rows2 :: pt l (.lst (rs2.map V.ref)) :: bgA rwA rs2 rows2 :: F) → Q (.bl true) H'
theorem hd_sp__law_arrives {K : PySem.W.Frag} {vs : List V} {H : Hp} {Q : VK} {E : XK} (k : sp__law_arrives K vs H Q E) : sp__law_arrives K vs H Q E := k
theorem use__law_arrives {K : PySem.W.Frag} {q l : Addr} {cap byte tick : Int} {rs : List Addr} {rows : List (Itm × Int)} {F : List Atom} {H : Hp} {Q : VK} {E : XK} (x0 : Own H (rqA K q cap rows :: pt l (.lst (rs.map V.ref)) :: bgA rwA rs rows :: F)) (hp : rows.length ≤ 100000 ∧ 0 < cap) (k : ∀ (rs2 : List Addr) (rows2 : List (Itm × Int)) H', (rows2.length ≤ rows.length + 1) → Own H' (rqA K q cap rows2 :: pt l (.lst (rs2.map V.ref)) :: bgA rwA rs2 rows2 :: F) → Q (.bl true) H') : sp__law_arrives K [.ref q, .ref l, .int cap, .int byte, .int tick] H Q E := ⟨q, l, cap, byte, tick, rs, rows, F, rfl, hp, x0, k⟩
def sp__law_takes (K : PySem.W.Frag) : Sp := fun vs H Q _ => ∃ (q l : Addr) (cap : Int) (rs : List Addr) (rows : List (Itm × Int)) (F : List Atom), vs = [.ref q, .ref l] ∧ Own H (rqA K q cap rows :: pt l (.lst (rs.map V.ref)) :: bgA rwA rs rows :: F) ∧ ∀ (rs2 : List Addr) (rows2 : List (Itm × Int)) H', (rows2.length ≤ rows.length) → Own H' (rqA K q cap rows2 :: pt l (.lst (rs2.map V.ref)) :: bgA rwA rs2 rows2 :: F) → Q (.bl true) H'
theorem hd_sp__law_takes {K : PySem.W.Frag} {vs : List V} {H : Hp} {Q : VK} {E : XK} (k : sp__law_takes K vs H Q E) : sp__law_takes K vs H Q E := k
theorem use__law_takes {K : PySem.W.Frag} {q l : Addr} {cap : Int} {rs : List Addr} {rows : List (Itm × Int)} {F : List Atom} {H : Hp} {Q : VK} {E : XK} (x0 : Own H (rqA K q cap rows :: pt l (.lst (rs.map V.ref)) :: bgA rwA rs rows :: F)) (k : ∀ (rs2 : List Addr) (rows2 : List (Itm × Int)) H', (rows2.length ≤ rows.length) → Own H' (rqA K q cap rows2 :: pt l (.lst (rs2.map V.ref)) :: bgA rwA rs2 rows2 :: F) → Q (.bl true) H') : sp__law_takes K [.ref q, .ref l] H Q E := ⟨q, l, cap, rs, rows, F, rfl, x0, k⟩
def sp_law (K : PySem.W.Frag) : Sp := fun vs H Q _ => ∃ (a : Addr) (ns : List Int), vs = [.ref a] ∧ ns.length ≤ 63 ∧ SqL K H a (ns.map V.int) ∧ ∀ H', Q (.bl true) H'
theorem hd_sp_law {K : PySem.W.Frag} {vs : List V} {H : Hp} {Q : VK} {E : XK} (k : sp_law K vs H Q E) : sp_law K vs H Q E := k
theorem use__law_is_integer {K : PySem.W.Frag} {n : Int} {H : Hp} {Q : VK} {E : XK} (k : Q (.bl true) H) : sp__law_is_integer K [.int n] H Q E := ⟨n, rfl, k⟩
theorem use__law_same0 {K : PySem.W.Frag} {n : Int} {H : Hp} {Q : VK} {E : XK} (k : Q (.bl true) H) : sp__law_same0 K [.int n, .int n] H Q E := ⟨n, rfl, k⟩
theorem use__law_same {K : PySem.W.Frag} {w u : V} {H : Hp} {Q : VK} {E : XK} (x : Option Itm) (h1 : oiA w x H) (h2 : oiA u x H) (k : Q (.bl true) H) : sp__law_same K [w, u] H Q E := ⟨w, u, x, rfl, h1, h2, k⟩
theorem use__law_same_n {K : PySem.W.Frag} {H : Hp} {Q : VK} {E : XK} (k : Q (.bl true) H) : sp__law_same K [.non, .non] H Q E := use__law_same none rfl rfl k
theorem use__law_same_i {K : PySem.W.Frag} {n : Int} {H : Hp} {Q : VK} {E : XK} (k : Q (.bl true) H) : sp__law_same K [.int n, .int n] H Q E := use__law_same (some (.b n)) it_b it_b k
theorem use__law_same_l {K : PySem.W.Frag} {a b : Addr} {n : Int} {H : Hp} {Q : VK} {E : XK} (h1 : H a = some (.tup [.str "lost", .int n])) (h2 : H b = some (.tup [.str "lost", .int n])) (k : Q (.bl true) H) : sp__law_same K [.ref a, .ref b] H Q E := use__law_same (some (.lost n)) (it_lost h1) (it_lost h2) k
noncomputable def t__law_is_integer (K : PySem.W.Frag) : TS :=
  tRet (tAndV (tCB (rIsi K) (tCons (tVar 0) (tCons (tC (.ty "int")) (tNil)))) (tNotV (tCB (rIsi K) (tCons (tVar 0) (tCons (tC (.ty "bool")) (tNil))))))
noncomputable def t__law_same0 (K : PySem.W.Frag) : TS :=
  tSeq (tIfS (tB (tCB (rIsi K) (tCons (tVar 1) (tCons (tC (.ty "tuple")) (tNil))))) (tRet (tAndV (tCB (rIsi K) (tCons (tVar 0) (tCons (tC (.ty "tuple")) (tNil)))) (tAndV (tOp rEq (tCB (rLen K) (tCons (tVar 0) (tNil))) (tC (.int 2))) (tAndV (tOp rEq (tOp (rIxT K) (tVar 0) (tC (.int 0))) (tC (.str "lost"))) (tNev))))) (tNext))
  (tSeq (tIfS (tTest (tOp rIsN (tVar 1) (tC .non))) (tRet (tOp rIsN (tVar 0) (tC .non))) (tNext))
  (tRet (tAndV (tCall (sp__law_is_integer K) [] C8.E0 (tCons (tVar 0) (tNil))) (tOp (rEqD K) (tVar 0) (tVar 1)))))
noncomputable def t__law_same (K : PySem.W.Frag) : TS :=
  tSeq (tIfS (tB (tCB (rIsi K) (tCons (tVar 1) (tCons (tC (.ty "tuple")) (tNil))))) (tRet (tAndV (tCB (rIsi K) (tCons (tVar 0) (tCons (tC (.ty "tuple")) (tNil)))) (tAndV (tOp rEq (tCB (rLen K) (tCons (tVar 0) (tNil))) (tC (.int 2))) (tAndV (tOp rEq (tOp (rIxT K) (tVar 0) (tC (.int 0))) (tC (.str "lost"))) (tCall (sp__law_same0 K) [] C8.E0 (tCons (tOp (rIxT K) (tVar 0) (tC (.int 1))) (tCons (tOp (rIxT K) (tVar 1) (tC (.int 1))) (tNil)))))))) (tNext))
  (tSeq (tIfS (tTest (tOp rIsN (tVar 1) (tC .non))) (tRet (tOp rIsN (tVar 0) (tC .non))) (tNext))
  (tRet (tAndV (tCall (sp__law_is_integer K) [] C8.E0 (tCons (tVar 0) (tNil))) (tOp (rEqD K) (tVar 0) (tVar 1)))))
noncomputable def t__law_held (K : PySem.W.Frag) : TS :=
  tRet (tCB (rLen K) (tCons (tLc (iList K (tVar 0)) (gName 1) (tNot (tB (tCB (rIsi K) (tCons (tOp (rIxL K) (tVar 1) (tC (.int 0))) (tCons (tC (.ty "tuple")) (tNil)))))) (tVar 1) [1]) (tNil)))
noncomputable def t__law_agrees (K : PySem.W.Frag) : TS :=
  tSeq (tAsg (tMeth (He.ga K "ReceiveQueue") "contents" (sp_ReceiveQueue_contents K) [] C8.E0 (tVar 0) tNil) (gName 3))
  (tSeq (tIfS (tOr (tNot (tB (tCB (rIsi K) (tCons (tVar 3) (tCons (tC (.ty "list")) (tNil)))))) (tTest (tOp rNe (tCB (rLen K) (tCons (tVar 3) (tNil))) (tCB (rLen K) (tCons (tVar 1) (tNil)))))) (tRet (tC (.bl false))) (tNext))
  (tSeq (tFor (iRng1 (tCons (tCB (rLen K) (tCons (tVar 1) (tNil))) (tNil))) (gName 4) (tIfS (tNot (tB (tCall (sp__law_same K) [] C8.E0 (tCons (tOp (rIxL K) (tVar 3) (tVar 4)) (tCons (tOp (rIxL K) (tOp (rIxL K) (tVar 1) (tVar 4)) (tC (.int 0))) (tNil)))))) (tRet (tC (.bl false))) (tNext)))
  (tSeq (tDrop (tBM K "list" rAppend (tVar 3) (tCons (tC (.int 5)) (tNil))))
  (tSeq (tAsg (tC .non) (gName 5))
  (tSeq (tAsg (tC .non) (gName 6))
  (tSeqM (tIfS (tTest (tOp rGtI (tCB (rLen K) (tCons (tVar 1) (tNil))) (tC (.int 0)))) (tSeq (tAsg (tOp (rIxL K) (tOp (rIxL K) (tVar 1) (tC (.int 0))) (tC (.int 0))) (gName 5))
  (tAsg (tOp (rIxL K) (tOp (rIxL K) (tVar 1) (tC (.int 0))) (tC (.int 1))) (gName 6))) (tNext))
  (tSeq (tIfS (tOr (tNot (tB (tCall (sp__law_same K) [] C8.E0 (tCons (tMeth (He.ga K "ReceiveQueue") "first" (sp_ReceiveQueue_first K) [] C8.E0 (tVar 0) tNil) (tCons (tVar 5) (tNil)))))) (tNot (tB (tCall (sp__law_same K) [] C8.E0 (tCons (tMeth (He.ga K "ReceiveQueue") "oldest_tick" (sp_ReceiveQueue_oldest_tick K) [] C8.E0 (tVar 0) tNil) (tCons (tVar 6) (tNil))))))) (tRet (tC (.bl false))) (tNext))
  (tRet (tAndV (tCall (sp__law_same K) [] C8.E0 (tCons (tMeth (He.ga K "ReceiveQueue") "bytes_held" (sp_ReceiveQueue_bytes_held K) [] C8.E0 (tVar 0) tNil) (tCons (tCall (sp__law_held K) [] C8.E0 (tCons (tVar 1) (tNil))) (tNil)))) (tOp rEq (tFld K (tVar 0) "capacity") (tVar 2)))))))))))
noncomputable def t__law_arrives (K : PySem.W.Frag) : TS :=
  tSeq (tAsg (tMeth (He.ga K "ReceiveQueue") "arrive" (sp_ReceiveQueue_arrive K) [] C8.E0 (tVar 0) (tCons (tVar 3) (tCons (tVar 4) (tNil)))) (gName 5))
  (tSeq (tIfS (tTest (tOp rLtI (tCall (sp__law_held K) [] C8.E0 (tCons (tVar 1) (tNil))) (tVar 2))) (tSeq (tDrop (tBM K "list" rAppend (tVar 1) (tCons (tLst (tCons (tVar 3) (tCons (tVar 4) (tNil)))) (tNil))))
  (tRet (tOp rIsBl (tVar 5) (tC (.bl true))))) (tNext))
  (tSeq (tAsg (tOp (rIxL K) (tVar 1) (tOp rSubI (tCB (rLen K) (tCons (tVar 1) (tNil))) (tC (.int 1)))) (gName 6))
  (tSeqM (tIfS (tB (tCB (rIsi K) (tCons (tOp (rIxL K) (tVar 6) (tC (.int 0))) (tCons (tC (.ty "tuple")) (tNil))))) (tAsg (tTup (tCons (tC (.str "lost")) (tCons (tOp rAddI (tOp (rIxT K) (tOp (rIxL K) (tVar 6) (tC (.int 0))) (tC (.int 1))) (tC (.int 1))) (tNil)))) (gSub (tVar 6) (tC (.int 0)) rSetL)) (tDrop (tBM K "list" rAppend (tVar 1) (tCons (tLst (tCons (tTup (tCons (tC (.str "lost")) (tCons (tC (.int 1)) (tNil)))) (tCons (tVar 4) (tNil)))) (tNil)))))
  (tRet (tOp rIsBl (tVar 5) (tC (.bl false)))))))
noncomputable def t__law_takes (K : PySem.W.Frag) : TS :=
  tSeq (tAsg (tC .non) (gName 2))
  (tSeqM (tIfS (tTest (tOp rGtI (tCB (rLen K) (tCons (tVar 1) (tNil))) (tC (.int 0)))) (tAsg (tOp (rIxL K) (tBM K "list" rPopAt (tVar 1) (tCons (tC (.int 0)) (tNil))) (tC (.int 0))) (gName 2)) (tNext))
  (tRet (tCall (sp__law_same K) [] C8.E0 (tCons (tMeth (He.ga K "ReceiveQueue") "take" (sp_ReceiveQueue_take K) [] C8.E0 (tVar 0) tNil) (tCons (tVar 2) (tNil))))))
noncomputable def t_law (K : PySem.W.Frag) : TS :=
  tSeq (tAsg (tCall (sp__law_state K) [] C8.E0 (tCons (tVar 0) (tNil))) (gName 1))
  (tSeq (tAsg (tOp rAddI (tC (.int 1)) (tCall (sp__law_draw K) [] C8.E0 (tCons (tVar 1) (tCons (tC (.int 16)) (tNil))))) (gName 2))
  (tSeqM (tIfS (tTest (tOp rEq (tCall (sp__law_draw K) [] C8.E0 (tCons (tVar 1) (tCons (tC (.int 2)) (tNil)))) (tC (.int 0)))) (tAsg (tOp rAddI (tC (.int 1)) (tCall (sp__law_draw K) [] C8.E0 (tCons (tVar 1) (tCons (tC (.int 3)) (tNil))))) (gName 2)) (tNext))
  (tSeq (tAsg (tMake (He.ga K "ReceiveQueue") (sp_ReceiveQueue_init K) [] C8.E0 (tCons (tVar 2) (tNil))) (gName 3))
  (tSeq (tAsg (tMake (He.ga K "ReceiveQueue") (sp_ReceiveQueue_init K) [] C8.E0 (tCons (tVar 2) (tNil))) (gName 4))
  (tSeq (tAsg (tLst (tNil)) (gName 5))
  (tSeq (tAsg (tCall (sp__law_pick K) [] C8.E0 (tCons (tVar 1) (tCons (tLst (tCons (tC (.int 0)) (tCons (tC (.int 1)) (tCons (tC (.int 5)) (tCons (tCall (sp__law_draw K) [] C8.E0 (tCons (tVar 1) (tCons (tC (.int 1000000)) (tNil)))) (tNil)))))) (tNil)))) (gName 6))
  (tSeq (tFor (iList K (L2.tSl (rSlL K) (tVar 0) (tNoPart) (tPart (tC (.int 63))))) (gName 7) (tSeq (tAsg (tCall (sp__law_pick K) [] C8.E0 (tCons (tVar 1) (tCons (tLst (tCons (tC (.int 1)) (tCons (tC (.int 1)) (tCons (tC (.int 2)) (tCons (tC (.int 3)) (tCons (tOp rAddI (tC (.int 1)) (tCall (sp__law_draw K) [] C8.E0 (tCons (tVar 1) (tCons (tC (.int 40)) (tNil))))) (tNil))))))) (tNil)))) (gName 8))
  (tSeq (tAsg (tOp rLtI (tCall (sp__law_draw K) [] C8.E0 (tCons (tVar 1) (tCons (tC (.int 5)) (tNil)))) (tC (.int 2))) (gName 9))
  (tSeq (tFor (iRng1 (tCons (tVar 8) (tNil))) (gName 10) (tIfS (tB (tVar 9)) (tIfS (tNot (tB (tCall (sp__law_takes K) [] C8.E0 (tCons (tVar 3) (tCons (tVar 5) (tNil)))))) (tRet (tC (.bl false))) (tNext)) (tIfS (tNot (tB (tCall (sp__law_arrives K) [] C8.E0 (tCons (tVar 3) (tCons (tVar 5) (tCons (tVar 2) (tCons (tCall (sp__law_draw K) [] C8.E0 (tCons (tVar 1) (tCons (tC (.int 256)) (tNil)))) (tCons (tVar 6) (tNil))))))))) (tRet (tC (.bl false))) (tNext))))
  (tSeq (tAsg (tOp rAddI (tVar 6) (tCall (sp__law_draw K) [] C8.E0 (tCons (tVar 1) (tCons (tC (.int 4)) (tNil))))) (gName 6))
  (tIfS (tNot (tB (tCall (sp__law_agrees K) [] C8.E0 (tCons (tVar 3) (tCons (tVar 5) (tCons (tVar 2) (tNil))))))) (tRet (tC (.bl false))) (tNext)))))))
  (tRet (tAndV (tCall (sp__law_agrees K) [] C8.E0 (tCons (tVar 3) (tCons (tVar 5) (tCons (tVar 2) (tNil))))) (tCall (sp__law_agrees K) [] C8.E0 (tCons (tVar 4) (tCons (tLst (tNil)) (tCons (tVar 2) (tNil))))))))))))))

local macro_rules | `(tactic| row_cond sl_close) => `(tactic| apply rq_close)
local macro_rules | `(tactic| row_cond sl_use) => `(tactic| ((with_reducible refine hd_sp_ReceiveQueue_init ?_); (with_reducible refine use_ReceiveQueue_init (cap := ?zcap) (by row_cond sl_own) ?_); (rename Own _ _ => hO0; rename Hp => hq0; intro H1 hH1; clear hO0; (try clear hq0))))
local macro_rules | `(tactic| row_cond sl_use) => `(tactic| ((with_reducible refine hd_sp_ReceiveQueue_arrive ?_); (with_reducible refine use_ReceiveQueue_arrive (tick := ?ztick) (by row_cond sl_own) ?k1 ?_); (case k1 => row_cond sl_ar); (rename Own _ _ => hO0; rename Hp => hq0; intro H1 hH1; clear hO0; (try clear hq0))))
local macro_rules | `(tactic| row_cond sl_use) => `(tactic| ((with_reducible refine hd_sp_ReceiveQueue_oldest_tick ?_); (with_reducible refine use_ReceiveQueue_oldest_tick (by row_cond sl_own) ?_)))
local macro_rules | `(tactic| row_cond sl_use) => `(tactic| ((with_reducible refine hd_sp_ReceiveQueue_bytes_held ?_); (with_reducible refine use_ReceiveQueue_bytes_held (by row_cond sl_own) ?_)))
local macro_rules | `(tactic| row_cond sl_use) => `(tactic| ((with_reducible refine hd_sp_ReceiveQueue_contents ?_); (with_reducible refine use_ReceiveQueue_contents (by row_cond sl_own) ?k1 ?_); (case k1 => row_cond sl_ar); (rename Own _ _ => hO0; rename Hp => hq0; intro q vs H1 hH1; clear hO0; (try clear hq0))))
local macro_rules | `(tactic| row_cond sl_use) => `(tactic| first
  | (with_reducible refine hd_fld ?_); (with_reducible refine use_rq_capacity (by row_cond sl_own) ?_)
  | (with_reducible refine hd_sp_ReceiveQueue_first ?_); (with_reducible refine use_ReceiveQueue_first_n (by row_cond sl_own) ?_)
  | (with_reducible refine hd_sp_ReceiveQueue_first ?_); (with_reducible refine use_ReceiveQueue_first_b (by row_cond sl_own) ?_)
  | ((with_reducible refine hd_sp_ReceiveQueue_first ?_); (with_reducible refine use_ReceiveQueue_first_l (by row_cond sl_own) ?_); (rename Own _ _ => hO0; intro q1 hH1; clear hO0))
  | (with_reducible refine hd_sp_ReceiveQueue_take ?_); (with_reducible refine use_ReceiveQueue_take_n (by row_cond sl_own) ?_)
  | ((with_reducible refine hd_sp_ReceiveQueue_take ?_); (with_reducible refine use_ReceiveQueue_take_b (by row_cond sl_own) ?_); row_cond sl_iH)
  | ((with_reducible refine hd_sp_ReceiveQueue_take ?_); (with_reducible refine use_ReceiveQueue_take_l (by row_cond sl_own) ?_); row_cond sl_ipH))



local macro_rules | `(tactic| row_cond sl_use) => `(tactic| ((with_reducible refine hd_sp__law_draw ?_); (with_reducible refine use__law_draw (by row_cond sl_own) ?k1 ?_); (case k1 => row_cond sl_ar); row_cond sl_ivH))
local macro_rules | `(tactic| row_cond sl_use) => `(tactic| ((with_reducible refine hd_sp__law_state ?_); (with_reducible refine use__law_state (by row_cond sl_own) ?k1 ?_); (case k1 => row_cond sl_ar); row_cond sl_ipH))



local macro_rules | `(tactic| row_cond sl_use) => `(tactic| ((with_reducible refine hd_sp__law_pick ?_); (with_reducible refine use__law_pick (by row_cond sl_own2) ?k1 ?_); (case k1 => row_cond sl_sz); (rename Own _ _ => hO0; rename Hp => hq0; intro v1 H1 hv1 hH1; clear hO0; (try clear hq0); (try simp only [List.mem_cons, List.mem_singleton, List.not_mem_nil, or_false] at hv1))))



local macro_rules | `(tactic| row_cond sl_use) => `(tactic| ((with_reducible refine hd_sp__law_held ?_); (with_reducible refine use__law_held (by row_cond sl_own2) ?k1 ?_); (case k1 => row_cond sl_ar); (rename Own _ _ => hO0; rename Hp => hq0; intro H1 hH1; clear hO0; (try clear hq0))))
local macro_rules | `(tactic| row_cond sl_use) => `(tactic| ((with_reducible refine hd_sp__law_agrees ?_); (with_reducible refine use__law_agrees (by row_cond sl_own3) ?k1 ?_); (case k1 => row_cond sl_ar); (rename Own _ _ => hO0; rename Hp => hq0; intro H1 hH1; clear hO0; (try clear hq0))))
local macro_rules | `(tactic| row_cond sl_use) => `(tactic| ((with_reducible refine hd_sp__law_arrives ?_); (with_reducible refine use__law_arrives (tick := ?ztick) (by row_cond sl_own3) ?k1 ?_); (case k1 => row_cond sl_ar); (rename Own _ _ => hO0; rename Hp => hq0; intro rs2 rows2 H1 hv1 hH1; clear hO0; (try clear hq0))))
local macro_rules | `(tactic| row_cond sl_use) => `(tactic| ((with_reducible refine hd_sp__law_takes ?_); (with_reducible refine use__law_takes (by row_cond sl_own3) ?_); (rename Own _ _ => hO0; rename Hp => hq0; intro rs2 rows2 H1 hv1 hH1; clear hO0; (try clear hq0))))
local macro_rules | `(tactic| row_cond sl_use) => `(tactic| first
  | (with_reducible refine hd_sp__law_is_integer ?_); (with_reducible refine use__law_is_integer ?_)
  | (with_reducible refine hd_sp__law_same0 ?_); (with_reducible refine use__law_same0 ?_)
  | (with_reducible refine hd_sp__law_same ?_); (with_reducible refine use__law_same_n ?_)
  | (with_reducible refine hd_sp__law_same ?_); (with_reducible refine use__law_same_i ?_)
  | (with_reducible refine hd_sp__law_same ?_); (with_reducible refine use__law_same_l (by row_cond sl_at) (by row_cond sl_at) ?_))


section
variable {K : PySem.W.Frag} [Tx_ReceiveQueue K] {vs : List V} {H : Hp} {Q : VK} {E : XK}
theorem pu__law_is_integer (h : sp__law_is_integer K vs H Q E) : t__law_is_integer K (De Q) (start ["_law_actual"] vs) H := by
  obtain ⟨n, rfl, k⟩ := h
  show t__law_is_integer K (De Q) [some (.int n)] H
  unfold t__law_is_integer
  row_cond sl_go
  exact k
theorem pu__law_same0 (h : sp__law_same0 K vs H Q E) : t__law_same0 K (De Q) (start ["_law_told", "_law_due"] vs) H := by
  obtain ⟨n, rfl, k⟩ := h
  show t__law_same0 K (De Q) [some (.int n), some (.int n)] H
  unfold t__law_same0
  row_cond sl_go
  exact bl_of (by simp) k
theorem pu__law_same (h : sp__law_same K vs H Q E) : t__law_same K (De Q) (start ["_law_told", "_law_due"] vs) H := by
  obtain ⟨w, u, x, rfl, h1, h2, k⟩ := h
  show t__law_same K (De Q) [some w, some u] H
  unfold t__law_same
  cases x with
  | none =>
    cases (show w = .non from h1)
    cases (show u = .non from h2)
    row_cond sl_go
    exact k
  | some x =>
    cases x with
    | b n =>
      cases (show w = .int n from h1.e)
      cases (show u = .int n from h2.e)
      row_cond sl_go
      exact bl_of (by simp) k
    | lost n =>
      obtain ⟨a, rfl, e1⟩ := h1.e
      obtain ⟨b, rfl, e2⟩ := h2.e
      row_cond sl_go
      exact k
theorem pu__law_held (h : sp__law_held K vs H Q E) : t__law_held K (De Q) (start ["_law_rows", "_law_row"] vs) H := by
  obtain ⟨l, rs, rows, F, rfl, hp, hH, k⟩ := h
  have hl := bg_len (own_p1 hH)
  show t__law_held K (De Q) [some (.ref l), none] H
  unfold t__law_held
  row_cond sl_go
  refine comp_list (xs := rs.map V.ref) [some (.ref l), none] (by rw [List.length_map]; omega) rfl (fun i acc => pu (acc.length = (rows.take i).countP fun r => r.1.byte) :: pt l (.lst (rs.map V.ref)) :: bgA rwA rs rows :: F) (own_put rfl hH) (fun i acc H' w => SqL.of (own_pt (own_p1 w))) ?_ ?_
  · intro i v acc G H' Y N hi _ w hY hN
    clear hH
    rw [List.getElem?_map] at hi
    have hi2 : i < rows.length := by
      rw [← hl]
      cases e : rs[i]? with
      | none => rw [e] at hi; cases hi
      | some r => exact (List.getElem?_eq_some_iff.mp e).1
    obtain ⟨⟨x, t⟩, hs⟩ : ∃ s, rows[i]? = some s := ⟨_, List.getElem?_eq_getElem hi2⟩
    obtain ⟨r, hr, w2⟩ := bg_focus (own_p3 w) hs
    rw [hr] at hi
    cases hi
    obtain ⟨u, hu, w3⟩ := rw_open w2
    have h1 := own_pt w3
    clear w2 w3
    obtain ⟨e, w4⟩ := own_pu (own_p1 w)
    have e2 : rows.take (i + 1) = rows.take i ++ [(x, t)] := by rw [List.take_succ, hs] <;> rfl
    cases x with
    | b n =>
      cases (show u = .int n from hu.e)
      row_cond sl_go
      refine hY _ _ (own_p1 (own_put ?_ w4))
      rw [List.length_append, e, e2, List.countP_append] <;> rfl
    | lost n =>
      obtain ⟨a, rfl, e1⟩ := hu.e
      row_cond sl_go
      refine hN _ (own_p1 (own_put ?_ w4))
      rw [e, e2, List.countP_append] <;> rfl
  · intro acc D H' _ w
    obtain ⟨e, w4⟩ := own_pu (own_p1 w)
    clear hH w
    rw [List.length_map, hl, List.take_length] at e
    row_cond sl_go
    rw [e]
    exact k _ w4.tail
theorem pu__law_agrees (h : sp__law_agrees K vs H Q E) : t__law_agrees K (De Q) (start ["_law_queue", "_law_rows", "_law_capacity", "_law_contents", "_law_k", "_law_first", "_law_tick"] vs) H := by
  obtain ⟨q, l, cap, rs, rows, F, rfl, hp, hH, k⟩ := h
  have hl := bg_len (own_p2 hH)
  show t__law_agrees K (De Q) [some (.ref q), some (.ref l), some (.int cap), none, none, none, none] H
  unfold t__law_agrees
  have hk0 : rows.length ≤ 100000 := hp
  row_cond sl_all
  · exfalso
    rename Own _ _ => hO
    have e := (own_per (own_p1 hO) pst_its).e.len
    rw [List.length_map] at e
    rename ¬ _ = _ => hb
    omega
  · rename Own _ _ => hO
    rename_i c vs _ _
    have hi := own_per (own_p1 hO) pst_its
    rename Hp => H2
    refine loop_range (fun i σ' H' => ∃ v, σ' = [some (.ref q), some (.ref l), some (.int cap), some (.ref c), v, none, none] ∧ H' = H2) ⟨_, rfl, rfl⟩ ?_ ?_
    · rintro i σ' H' hi2 ⟨v, rfl, rfl⟩
      have hi3 : i < rs.length := by omega
      obtain ⟨r, x, ev, hr, hx, w2⟩ := bg_at (i := i) (v := .ref rs[i]) (own_p4 hO) (by rw [List.getElem?_map, List.getElem?_eq_getElem hi3] <;> rfl)
      obtain ⟨u, hu, w3⟩ := rw_open w2
      have h1 := own_pt w3
      clear w2 w3
      have e2 : at0 rs (i : Int) = r := by
        show rs.getD i default = r
        rw [List.getD_eq_getElem?_getD, hr] <;> rfl
      obtain ⟨v, hv, hv2⟩ : ∃ v, vs[i]? = some v ∧ itA v x.1 H' := hi.e.get (by rw [List.getElem?_map, hx] <;> rfl)
      have hv3 : atI vs (i : Int) = some v := atI_nat hv
      row_cond sl_go
      rw [e2]
      row_cond sl_go
      refine use__law_same (some x.1) hv2 hu ?_
      row_cond sl_go
      exact ⟨_, rfl, rfl⟩
    · rintro σ' H' ⟨v, rfl, rfl⟩
      have hnb : (decide (cap = cap)) = true := decide_eq_true rfl
      cases rows with
      | nil =>
        have e : rs = [] := List.length_eq_zero_iff.mp hl
        subst e
        row_cond sl_all
        simp only [List.head?_nil, Option.map_none, vO_none]
        row_cond sl_all
        exact bl_of hnb.symm (k _ (by row_cond sl_fin))
      | cons x rows =>
        obtain ⟨x, t⟩ := x
        cases rs with
        | nil => cases hl
        | cons r rs =>
          row_cond sl_go
          rename Own _ _ => hO
          obtain ⟨w, hw, hO⟩ := rw_open (bg_uncons (own_p4 hO))
          dsimp only at hO hw
          cases x with
          | b n =>
            cases (show w = .int n from hw.e)
            row_cond sl_all
            simp only [List.head?_cons, Option.map_some, vO_some]
            row_cond sl_all
            rename Own _ _ => hO
            have w2 := bg_cons (rw_close (it_b (n := n)) hO)
            clear hO
            row_cond sl_all
            exact bl_of hnb.symm (k _ (by row_cond sl_fin))
          | lost n =>
            obtain ⟨y, rfl, ey⟩ := hw.e
            replace hO := per_own (φ := pt y (.tup [.str "lost", .int n])) ⟨ey⟩ pst_tup hO
            row_cond sl_all
            simp only [List.head?_cons, Option.map_some, vO_some]
            row_cond sl_all
            rename Own _ _ => hO
            have ey2 := (show Own _ (pt y (.tup [.str "lost", .int n]) :: _) by row_cond sl_own)
            have w2 := bg_cons (rw_close (it_lost (own_pt ey2)) (show Own _ (pt r (.lst [.ref y, .int t]) :: bgA rwA rs rows :: _) by row_cond sl_own2))
            clear hO ey2
            row_cond sl_all
            exact bl_of hnb.symm (k _ (by row_cond sl_fin))
theorem pu__law_arrives (h : sp__law_arrives K vs H Q E) : t__law_arrives K (De Q) (start ["_law_queue", "_law_rows", "_law_capacity", "_law_byte", "_law_tick", "_law_told", "_law_newest"] vs) H := by
  obtain ⟨q, l, cap, byte, tick, rs, rows, F, rfl, ⟨hp1, hp2⟩, hH, k⟩ := h
  have hl := bg_len (own_p2 hH)
  show t__law_arrives K (De Q) [some (.ref q), some (.ref l), some (.int cap), some (.int byte), some (.int tick), none, none] H
  unfold t__law_arrives
  by_cases hc : nbR rows < cap
  · have e := show arr cap rows byte tick = rows ++ [(Itm.b byte, tick)] from if_pos hc
    row_cond sl_all
    rename Own _ _ => hO
    rw [e] at hO
    have w2 := bg_snoc (own_p1 (own_p2 (rw_close (it_b (n := byte)) (own_p1 hO))))
    clear hO
    exact bl_of (by rw [decide_eq_true hc]; exact (decide_eq_true rfl).symm) (k _ (rows ++ [(Itm.b byte, tick)]) _ (by rw [List.length_append]; exact Nat.le_refl _) (by row_cond sl_fin))
  · rcases List.eq_nil_or_concat rows with rfl | ⟨rows, ⟨x, t⟩, rfl⟩
    · exact absurd (by rw [nbR_nil]; omega) hc
    · rw [List.concat_eq_append] at hH hc hl hp1 k
      rcases List.eq_nil_or_concat rs with rfl | ⟨rs, r, rfl⟩
      · rw [List.length_append] at hl
        cases hl
      · rw [List.concat_eq_append] at hH hl
        rw [List.length_append, List.length_append, List.length_singleton, List.length_singleton] at hl
        rw [List.length_append, List.length_singleton] at hp1
        have ei : at0 (rs ++ [r]) (((rs ++ [r]).length : Int) - 1) = r := by
          rw [show ((rs ++ [r]).length : Int) - 1 = (rs.length : Int) by simp]
          show (rs ++ [r]).getD rs.length default = r
          simp
        have hrl : ((rs ++ [r]).length : Int) = rs.length + 1 := by simp
        have hp1' : (rows ++ [(x, t)]).length ≤ 100000 := by rw [List.length_append]; exact hp1
        row_cond sl_all
        rename Own _ _ => hO
        rw [ei]
        obtain ⟨w, hw, hO⟩ := rw_open (bg_unsnoc (own_p1 hO))
        rename Own _ (pt l _ :: _) => hX
        clear hX
        dsimp only at hO hw
        cases x with
        | b n =>
          have e := arr_b (byte := byte) (tick := tick) hc
          cases (show w = .int n from hw.e)
          row_cond sl_all
          rename Own _ _ => hO
          rename_i pl pr _
          rw [e] at hO
          have g := own_per (own_p2 hO) pst_tup
          have w2 := bg_snoc (own_p1 (own_p4 (rw_close (it_b (n := n)) (own_p3 hO))))
          have w3 := bg_snoc (rw_close (it_lost g.e) (own_p2 w2))
          clear hO w2
          exact bl_of (by rw [decide_eq_false hc]; exact (decide_eq_true rfl).symm) (k _ (rows ++ [(Itm.b n, t)] ++ [(Itm.lost 1, tick)]) _ (by simp) (by row_cond sl_fin))
        | lost n =>
          have e := arr_l (byte := byte) (tick := tick) hc
          obtain ⟨y, rfl, ey⟩ := hw.e
          replace hO := per_own (φ := pt y (.tup [.str "lost", .int n])) ⟨ey⟩ pst_tup hO
          row_cond sl_all
          rename Own _ _ => hO
          rename_i pl _
          rw [e] at hO
          have g := own_per (own_p1 hO) pst_tup
          have w2 := bg_snoc (own_p1 (own_p3 (rw_close (it_lost g.e) hO)))
          clear hO
          exact bl_of (by rw [decide_eq_false hc]; exact (decide_eq_true rfl).symm) (k _ (rows ++ [(Itm.lost (n + 1), t)]) _ (by simp) (by row_cond sl_fin))
theorem pu__law_takes (h : sp__law_takes K vs H Q E) : t__law_takes K (De Q) (start ["_law_queue", "_law_rows", "_law_due"] vs) H := by
  obtain ⟨q, l, cap, rs, rows, F, rfl, hH, k⟩ := h
  have hl := bg_len (own_p2 hH)
  show t__law_takes K (De Q) [some (.ref q), some (.ref l), none] H
  unfold t__law_takes
  cases rows with
  | nil =>
    have e : rs = [] := List.length_eq_zero_iff.mp hl
    subst e
    row_cond sl_all
    exact k [] [] _ (Nat.le_refl _) hH
  | cons x rows =>
    obtain ⟨x, t⟩ := x
    cases rs with
    | nil => cases hl
    | cons r rs =>
      obtain ⟨w, hw, hO⟩ := rw_open (bg_uncons (own_p2 hH))
      dsimp only at hO hw
      clear hH
      cases x with
      | b n =>
        cases (show w = .int n from hw.e)
        row_cond sl_all
        exact k rs rows _ (by simp) (by row_cond sl_fin)
      | lost n =>
        obtain ⟨y, rfl, ey⟩ := hw.e
        replace hO := per_own (φ := pt y (.tup [.str "lost", .int n])) ⟨ey⟩ pst_tup hO
        row_cond sl_all
        exact k rs rows _ (by simp) (by row_cond sl_fin)
theorem pu_law (h : sp_law K vs H Q E) : t_law K (De Q) (start ["_law_script", "_law_state_here", "_law_capacity", "_law_queue", "_law_other", "_law_rows", "_law_tick", "_law_cell", "_law_many", "_law_takes_here", "_law_k"] vs) H := by
  obtain ⟨a, ns, rfl, hl, hS, k⟩ := h
  have hH := sq_own hS
  show t_law K (De Q) [some (.ref a), none, none, none, none, none, none, none, none, none, none] H
  unfold t_law
  row_cond sl_go
  rename Own _ _ => hO
  rename_i st v0 a0 b0 _
  refine g_join (fun σ' H' => ∃ cap : Int, σ' = [some (.ref a), some (.ref st), some (.int cap), none, none, none, none, none, none, none, none] ∧ Own H' [stA st, sq K a (ns.map V.int)] ∧ 0 < cap) ?_ ?_
  · intro NX hNX
    row_cond sl_go
    · exact hNX _ _ ⟨_, rfl, by row_cond sl_fin, by omega⟩
    · exact hNX _ _ ⟨_, rfl, by row_cond sl_fin, by omega⟩
  · rintro σ' H1 ⟨cap, rfl, z, hcap⟩
    clear hO
    row_cond sl_go
    rename Own _ _ => hO
    rename_i q o l vd _ _ lt vt ht pc _
    have hO := bg_nil (S := rwA) hO
    have hcl : (cutV (ns.map V.int) none (some 63)).length ≤ 63 := by
      unfold cutV
      rw [List.length_take, List.length_drop, List.length_map]
      omega
    refine loop_list (xs := cutV (ns.map V.int) none (some 63)) (fun i σ' H' => ∃ (rs : List Addr) (rows : List (Itm × Int)) (tk : Int) (v7 v8 v9 v10 : Option V), σ' = [some (.ref a), some (.ref st), some (.int cap), some (.ref q), some (.ref o), some (.ref l), some (.int tk), v7, v8, v9, v10] ∧
      Own H' (pt pc (.lst (cutV (ns.map V.int) none (some 63))) :: stA st :: rqA K q cap rows :: rqA K o cap [] :: pt l (.lst (rs.map V.ref)) :: bgA rwA rs rows :: []) ∧ rows.length ≤ 40 * i) ⟨[], [], _, _, _, _, _, rfl, by row_cond sl_fin, Nat.zero_le _⟩ (fun i σ' H' ⟨_, _, _, _, _, _, _, _, z, _⟩ => own_pt z) ?_ ?_
    · rintro i x σ' H2 hi ⟨rs, rows, tk, v7, v8, v9, v10, rfl, w, hl2⟩
      clear hO
      have hi2 : i < 63 := by
        have := (List.getElem?_eq_some_iff.mp hi).1
        omega
      row_cond sl_go
      rename Own _ _ => hO
      rename_i d40 _ _ lt2 vt2 ht2 d5 _ _ _
      have hvt : 0 ≤ vt2 ∧ vt2 ≤ 40 := by omega
      refine loop_range (fun j σ' H' => ∃ (rs : List Addr) (rows : List (Itm × Int)) (v10 : Option V), σ' = [some (.ref a), some (.ref st), some (.int cap), some (.ref q), some (.ref o), some (.ref l), some (.int tk), some x, some (.int vt2), some (.bl (decide (d5 < 2))), v10] ∧
        Own H' (pt pc (.lst (cutV (ns.map V.int) none (some 63))) :: stA st :: rqA K q cap rows :: rqA K o cap [] :: pt l (.lst (rs.map V.ref)) :: bgA rwA rs rows :: []) ∧ rows.length ≤ 40 * i + j) ⟨rs, rows, _, rfl, by row_cond sl_fin, by omega⟩ ?_ ?_
      · rintro j σ' H3 hj ⟨rs, rows, v10, rfl, w, hl3⟩
        clear hO
        have hp1 : rows.length ≤ 100000 := by omega
        have hp2 : rows.length ≤ 100000 ∧ 0 < cap := ⟨hp1, hcap⟩
        row_cond sl_go
        all_goals
          rename List.length _ ≤ _ => e
          exact ⟨_, _, _, rfl, by row_cond sl_fin, by omega⟩
      · rintro σ' H3 ⟨rs, rows, v10, rfl, w, hl3⟩
        clear hO
        have hp1 : rows.length ≤ 100000 := by omega
        row_cond sl_go
        exact ⟨rs, rows, _, _, _, _, _, rfl, by row_cond sl_fin, by omega⟩
    · rintro σ' H2 ⟨rs, rows, tk, v7, v8, v9, v10, rfl, w, hl2⟩
      clear hO
      have hp1 : rows.length ≤ 100000 := by omega
      row_cond sl_go
      rename Own _ _ => hO
      have hO2 : Own _ (bgA rwA [] [] :: pt _ (.lst (([] : List Addr).map V.ref)) :: _) := bg_nil (S := rwA) hO
      have hp3 : ([] : List (Itm × Int)).length ≤ 100000 := Nat.zero_le _
      clear hO
      row_cond sl_go
      exact k _
end

end SL
end

section
set_option Elab.async false
set_option linter.all false
set_option maxRecDepth 100000
set_option maxHeartbeats 0
namespace SL
open PySem PySem.Spec PyProof.Rows L2
/-! ## the walk's own rules -/
section
variable {P : Program} {w : World} {K : PySem.W.Frag} {mg : Str → Option Value} {base : Heap} {x qual : Str} {params : Arguments} {body : List Stmt} {scope : Scope} {f : Addr} {fd : FuncData} {N ps : List Str} {k : Nat} {sp : Sp} {t : TS} {kws : List (Str × V)}
theorem fnX (F : FunD K x qual params body scope [] kws f fd) (S : FnScope N ps scope) (len : ∀ vs H Q E, sp vs H Q E → vs.length = ps.length) (pu : ∀ vs H Q E, sp vs H Q E → t (De Q) (start N vs) H)
    (d : ∀ (cdv : Value) (A : Around) (outer : List Env) (s : Shared) (H : Hp) (E : XK), Room k (A.deeper (envOfC qual scope s.heap.objs.size f cdv)) → PSs (cxOf C8.CX0 P w K mg base N qual scope f cdv A outer s H E).nox body t) : FnOk P w K mg base C8.CX0 (k + 1) f fd ps sp :=
  FunD.ok F S len fun cdv A outer s H vs Q E hr h => ⟨t, PSs.nox (d cdv A outer s H E hr), pu vs H Q E h⟩
theorem calX {dvs : List V} {ds : List Value} (F : FnOk P w K mg base C8.CX0 k f fd ps sp) (m : mg x = some (.ref f)) (kp : PySem.W.keepIn K (.ref f) = true) (b : Binds K fd ps ds) (v : Vals dvs ds) : C8.Cal P w K mg base k x sp dvs := ⟨f, fd, ps, ds, F, m, kp, b, v⟩
theorem metX {C : Addr} {m : Str} (c : Cls K C) (me : Meth K C m f) (F : FnOk P w K mg base C8.CX0 k f fd ps sp) (b : Binds K fd ps []) : C8.Met P w K mg base k C m sp [] := ⟨f, fd, ps, [], c, me, F, b, .nil⟩
theorem makX {C : Addr} (M : Mk K C f) (m : mg x = some (.ref C)) (F : FnOk P w K mg base C8.CX0 k f fd ps sp) (b : Binds K fd ps []) : C8.Mak P w K mg base k x C sp [] := ⟨f, fd, ps, [], M, F, m, b, .nil⟩
theorem setF {M : Prop} (h : M) : M := h
end
def top (i : Nat) : Stmt := PySem.Challenge.pw_tickrings_k08_receive_queues.main.body.getD i (.Pass ⟨0, 0, 0, 0⟩)
abbrev s_ReceiveQueue_init : Stmt := inClass (top 1) 0
abbrev s_ReceiveQueue_arrive : Stmt := inClass (top 1) 1
abbrev s_ReceiveQueue_first : Stmt := inClass (top 1) 2
abbrev s_ReceiveQueue_take : Stmt := inClass (top 1) 3
abbrev s_ReceiveQueue_oldest_tick : Stmt := inClass (top 1) 4
abbrev s_ReceiveQueue_bytes_held : Stmt := inClass (top 1) 5
abbrev s_ReceiveQueue_contents : Stmt := inClass (top 1) 6
abbrev s__law_state : Stmt := top 3
abbrev s__law_draw : Stmt := top 4
abbrev s__law_pick : Stmt := top 5
abbrev s__law_is_integer : Stmt := top 6
abbrev s__law_same : Stmt := top 7
abbrev s__law_held : Stmt := top 8
abbrev s__law_agrees : Stmt := top 9
abbrev s__law_arrives : Stmt := top 10
abbrev s__law_takes : Stmt := top 11
abbrev s_law : Stmt := top 12
def d_ReceiveQueue_init : He.DefD := ⟨("ReceiveQueue", some "__init__"), "__init__", "ReceiveQueue.__init__", defArgs s_ReceiveQueue_init, defBody s_ReceiveQueue_init, defScope s_ReceiveQueue_init, [], []⟩
def d_ReceiveQueue_arrive : He.DefD := ⟨("ReceiveQueue", some "arrive"), "arrive", "ReceiveQueue.arrive", defArgs s_ReceiveQueue_arrive, defBody s_ReceiveQueue_arrive, defScope s_ReceiveQueue_arrive, [], []⟩
def d_ReceiveQueue_first : He.DefD := ⟨("ReceiveQueue", some "first"), "first", "ReceiveQueue.first", defArgs s_ReceiveQueue_first, defBody s_ReceiveQueue_first, defScope s_ReceiveQueue_first, [], []⟩
def d_ReceiveQueue_take : He.DefD := ⟨("ReceiveQueue", some "take"), "take", "ReceiveQueue.take", defArgs s_ReceiveQueue_take, defBody s_ReceiveQueue_take, defScope s_ReceiveQueue_take, [], []⟩
def d_ReceiveQueue_oldest_tick : He.DefD := ⟨("ReceiveQueue", some "oldest_tick"), "oldest_tick", "ReceiveQueue.oldest_tick", defArgs s_ReceiveQueue_oldest_tick, defBody s_ReceiveQueue_oldest_tick, defScope s_ReceiveQueue_oldest_tick, [], []⟩
def d_ReceiveQueue_bytes_held : He.DefD := ⟨("ReceiveQueue", some "bytes_held"), "bytes_held", "ReceiveQueue.bytes_held", defArgs s_ReceiveQueue_bytes_held, defBody s_ReceiveQueue_bytes_held, defScope s_ReceiveQueue_bytes_held, [], []⟩
def d_ReceiveQueue_contents : He.DefD := ⟨("ReceiveQueue", some "contents"), "contents", "ReceiveQueue.contents", defArgs s_ReceiveQueue_contents, defBody s_ReceiveQueue_contents, defScope s_ReceiveQueue_contents, [], []⟩
def d__law_state : He.DefD := ⟨("_law_state", none), "_law_state", "_law_state", defArgs s__law_state, defBody s__law_state, defScope s__law_state, [], []⟩
def d__law_draw : He.DefD := ⟨("_law_draw", none), "_law_draw", "_law_draw", defArgs s__law_draw, defBody s__law_draw, defScope s__law_draw, [], []⟩
def d__law_pick : He.DefD := ⟨("_law_pick", none), "_law_pick", "_law_pick", defArgs s__law_pick, defBody s__law_pick, defScope s__law_pick, [], []⟩
def d__law_is_integer : He.DefD := ⟨("_law_is_integer", none), "_law_is_integer", "_law_is_integer", defArgs s__law_is_integer, defBody s__law_is_integer, defScope s__law_is_integer, [], []⟩
def d__law_same : He.DefD := ⟨("_law_same", none), "_law_same", "_law_same", defArgs s__law_same, defBody s__law_same, defScope s__law_same, [], []⟩
def d__law_held : He.DefD := ⟨("_law_held", none), "_law_held", "_law_held", defArgs s__law_held, defBody s__law_held, defScope s__law_held, [], []⟩
def d__law_agrees : He.DefD := ⟨("_law_agrees", none), "_law_agrees", "_law_agrees", defArgs s__law_agrees, defBody s__law_agrees, defScope s__law_agrees, [], []⟩
def d__law_arrives : He.DefD := ⟨("_law_arrives", none), "_law_arrives", "_law_arrives", defArgs s__law_arrives, defBody s__law_arrives, defScope s__law_arrives, [], []⟩
def d__law_takes : He.DefD := ⟨("_law_takes", none), "_law_takes", "_law_takes", defArgs s__law_takes, defBody s__law_takes, defScope s__law_takes, [], []⟩
def d_law : He.DefD := ⟨("law", none), "law", "law", defArgs s_law, defBody s_law, defScope s_law, [], []⟩
def fn : List He.DefD := ([d_ReceiveQueue_init, d_ReceiveQueue_arrive, d_ReceiveQueue_first, d_ReceiveQueue_take, d_ReceiveQueue_oldest_tick, d_ReceiveQueue_bytes_held, d_ReceiveQueue_contents, d__law_state, d__law_draw, d__law_pick, d__law_is_integer, d__law_same, d__law_held, d__law_agrees, d__law_arrives, d__law_takes, d_law] : List He.DefD)
def fa : List He.Fa := ([.glo "_law_state", .glo "_law_draw", .glo "_law_pick", .glo "_law_is_integer", .glo "_law_same", .glo "_law_held", .glo "_law_agrees", .glo "_law_arrives", .glo "_law_takes", .glo "law", .glo "ReceiveQueue", .cls "ReceiveQueue", .mkr "ReceiveQueue", .meth "ReceiveQueue" "__init__", .meth "ReceiveQueue" "arrive", .meth "ReceiveQueue" "first", .meth "ReceiveQueue" "take", .meth "ReceiveQueue" "oldest_tick", .meth "ReceiveQueue" "bytes_held", .meth "ReceiveQueue" "contents", .noat "ReceiveQueue" "capacity", .noat "ReceiveQueue" "rows", .noat "ReceiveQueue" "held", .free "isinstance"] : List He.Fa) ++ ([.free "tuple", .free "len", .free "range", .free "int", .free "abs", .free "bool", .free "list"] : List He.Fa)
abbrev R : PySem.W.OpenRow := PySem.W.OpenLaw.row PySem.Challenge.rw_tickrings_k08_receive_queues
abbrev hk : PySem.W.Hook := He.hookD 5 fa fn
def obS (s : PySem.W.SharedT) : He.AlD := He.obsDG 5 fa fn (HandSHeadRun.getT s)
theorem obS_eq (s : PySem.W.SharedT) : obS s = hk.obs s.abs := He.obsDG_eq (HandSHeadRun.getT_eq s)
def loose : List PySem.Str := (["ReceiveQueue", "_law_state", "_law_draw", "_law_pick", "_law_is_integer", "_law_same", "_law_held", "_law_agrees", "_law_arrives", "_law_takes"] : List PySem.Str)
theorem run (w : World) : HandSHeadRun.RunEq R (PySem.W.view R.prog [12]) hk obS 30000 loose w := by
  intro os
  kernel_rfl
abbrev n__law_state : List Str := ["_law_script", "_law_seed", "_law_cell"]
theorem sc__law_state : FnScope n__law_state ["_law_script"] (defScope s__law_state) := C8.fnScope_by (by decide +kernel)
theorem ln__law_state {K : PySem.W.Frag} : ∀ vs H Q E, sp__law_state K vs H Q E → vs.length = (["_law_script"] : List Str).length := by
  intro vs H Q E h
  unfold sp__law_state at h
  repeat' (first | (obtain ⟨rfl, _⟩ := h; exact rfl) | (obtain ⟨_, h⟩ := h))
abbrev n__law_draw : List Str := ["_law_state_here", "_law_many", "_law_cells", "_law_value", "_law_mixed"]
theorem sc__law_draw : FnScope n__law_draw ["_law_state_here", "_law_many"] (defScope s__law_draw) := C8.fnScope_by (by decide +kernel)
theorem ln__law_draw {K : PySem.W.Frag} : ∀ vs H Q E, sp__law_draw K vs H Q E → vs.length = (["_law_state_here", "_law_many"] : List Str).length := by
  intro vs H Q E h
  unfold sp__law_draw at h
  repeat' (first | (obtain ⟨rfl, _⟩ := h; exact rfl) | (obtain ⟨_, h⟩ := h))
abbrev n_ReceiveQueue_init : List Str := ["self", "capacity"]
theorem sc_ReceiveQueue_init : FnScope n_ReceiveQueue_init ["self", "capacity"] (defScope s_ReceiveQueue_init) := C8.fnScope_by (by decide +kernel)
theorem ln_ReceiveQueue_init {K : PySem.W.Frag} : ∀ vs H Q E, sp_ReceiveQueue_init K vs H Q E → vs.length = (["self", "capacity"] : List Str).length := by
  intro vs H Q E h
  unfold sp_ReceiveQueue_init at h
  repeat' (first | (obtain ⟨rfl, _⟩ := h; exact rfl) | (obtain ⟨_, h⟩ := h))
abbrev n__law_pick : List Str := ["_law_state_here", "_law_row"]
theorem sc__law_pick : FnScope n__law_pick ["_law_state_here", "_law_row"] (defScope s__law_pick) := C8.fnScope_by (by decide +kernel)
theorem ln__law_pick {K : PySem.W.Frag} : ∀ vs H Q E, sp__law_pick K vs H Q E → vs.length = (["_law_state_here", "_law_row"] : List Str).length := by
  intro vs H Q E h
  unfold sp__law_pick at h
  repeat' (first | (obtain ⟨rfl, _⟩ := h; exact rfl) | (obtain ⟨_, h⟩ := h))
abbrev n__law_is_integer : List Str := ["_law_actual"]
theorem sc__law_is_integer : FnScope n__law_is_integer ["_law_actual"] (defScope s__law_is_integer) := C8.fnScope_by (by decide +kernel)
theorem ln__law_is_integer {K : PySem.W.Frag} : ∀ vs H Q E, sp__law_is_integer K vs H Q E → vs.length = (["_law_actual"] : List Str).length := by
  intro vs H Q E h
  unfold sp__law_is_integer at h
  repeat' (first | (obtain ⟨rfl, _⟩ := h; exact rfl) | (obtain ⟨_, h⟩ := h))
abbrev n__law_same : List Str := ["_law_told", "_law_due"]
theorem sc__law_same : FnScope n__law_same ["_law_told", "_law_due"] (defScope s__law_same) := C8.fnScope_by (by decide +kernel)
theorem ln__law_same0 {K : PySem.W.Frag} : ∀ vs H Q E, sp__law_same0 K vs H Q E → vs.length = (["_law_told", "_law_due"] : List Str).length := by
  intro vs H Q E h
  unfold sp__law_same0 at h
  repeat' (first | (obtain ⟨rfl, _⟩ := h; exact rfl) | (obtain ⟨_, h⟩ := h))
theorem ln__law_same {K : PySem.W.Frag} : ∀ vs H Q E, sp__law_same K vs H Q E → vs.length = (["_law_told", "_law_due"] : List Str).length := by
  intro vs H Q E h
  unfold sp__law_same at h
  repeat' (first | (obtain ⟨rfl, _⟩ := h; exact rfl) | (obtain ⟨_, h⟩ := h))
abbrev n_ReceiveQueue_take : List Str := ["self", "item"]
theorem sc_ReceiveQueue_take : FnScope n_ReceiveQueue_take ["self"] (defScope s_ReceiveQueue_take) := C8.fnScope_by (by decide +kernel)
theorem ln_ReceiveQueue_take {K : PySem.W.Frag} : ∀ vs H Q E, sp_ReceiveQueue_take K vs H Q E → vs.length = (["self"] : List Str).length := by
  intro vs H Q E h
  unfold sp_ReceiveQueue_take at h
  repeat' (first | (obtain ⟨rfl, _⟩ := h; exact rfl) | (obtain ⟨_, h⟩ := h))
abbrev n__law_takes : List Str := ["_law_queue", "_law_rows", "_law_due"]
theorem sc__law_takes : FnScope n__law_takes ["_law_queue", "_law_rows"] (defScope s__law_takes) := C8.fnScope_by (by decide +kernel)
theorem ln__law_takes {K : PySem.W.Frag} : ∀ vs H Q E, sp__law_takes K vs H Q E → vs.length = (["_law_queue", "_law_rows"] : List Str).length := by
  intro vs H Q E h
  unfold sp__law_takes at h
  repeat' (first | (obtain ⟨rfl, _⟩ := h; exact rfl) | (obtain ⟨_, h⟩ := h))
abbrev n_ReceiveQueue_arrive : List Str := ["self", "byte", "tick", "newest", "came"]
theorem sc_ReceiveQueue_arrive : FnScope n_ReceiveQueue_arrive ["self", "byte", "tick"] (defScope s_ReceiveQueue_arrive) := C8.fnScope_by (by decide +kernel)
theorem ln_ReceiveQueue_arrive {K : PySem.W.Frag} : ∀ vs H Q E, sp_ReceiveQueue_arrive K vs H Q E → vs.length = (["self", "byte", "tick"] : List Str).length := by
  intro vs H Q E h
  unfold sp_ReceiveQueue_arrive at h
  repeat' (first | (obtain ⟨rfl, _⟩ := h; exact rfl) | (obtain ⟨_, h⟩ := h))
abbrev n__law_held : List Str := ["_law_rows", "_law_row"]
theorem sc__law_held : FnScope n__law_held ["_law_rows"] (defScope s__law_held) := C8.fnScope_by (by decide +kernel)
theorem ln__law_held {K : PySem.W.Frag} : ∀ vs H Q E, sp__law_held K vs H Q E → vs.length = (["_law_rows"] : List Str).length := by
  intro vs H Q E h
  unfold sp__law_held at h
  repeat' (first | (obtain ⟨rfl, _⟩ := h; exact rfl) | (obtain ⟨_, h⟩ := h))
abbrev n__law_arrives : List Str := ["_law_queue", "_law_rows", "_law_capacity", "_law_byte", "_law_tick", "_law_told", "_law_newest"]
theorem sc__law_arrives : FnScope n__law_arrives ["_law_queue", "_law_rows", "_law_capacity", "_law_byte", "_law_tick"] (defScope s__law_arrives) := C8.fnScope_by (by decide +kernel)
theorem ln__law_arrives {K : PySem.W.Frag} : ∀ vs H Q E, sp__law_arrives K vs H Q E → vs.length = (["_law_queue", "_law_rows", "_law_capacity", "_law_byte", "_law_tick"] : List Str).length := by
  intro vs H Q E h
  unfold sp__law_arrives at h
  repeat' (first | (obtain ⟨rfl, _⟩ := h; exact rfl) | (obtain ⟨_, h⟩ := h))
abbrev n_ReceiveQueue_contents : List Str := ["self", "row"]
theorem sc_ReceiveQueue_contents : FnScope n_ReceiveQueue_contents ["self"] (defScope s_ReceiveQueue_contents) := C8.fnScope_by (by decide +kernel)
theorem ln_ReceiveQueue_contents {K : PySem.W.Frag} : ∀ vs H Q E, sp_ReceiveQueue_contents K vs H Q E → vs.length = (["self"] : List Str).length := by
  intro vs H Q E h
  unfold sp_ReceiveQueue_contents at h
  repeat' (first | (obtain ⟨rfl, _⟩ := h; exact rfl) | (obtain ⟨_, h⟩ := h))
abbrev n_ReceiveQueue_first : List Str := ["self"]
theorem sc_ReceiveQueue_first : FnScope n_ReceiveQueue_first ["self"] (defScope s_ReceiveQueue_first) := C8.fnScope_by (by decide +kernel)
theorem ln_ReceiveQueue_first {K : PySem.W.Frag} : ∀ vs H Q E, sp_ReceiveQueue_first K vs H Q E → vs.length = (["self"] : List Str).length := by
  intro vs H Q E h
  unfold sp_ReceiveQueue_first at h
  repeat' (first | (obtain ⟨rfl, _⟩ := h; exact rfl) | (obtain ⟨_, h⟩ := h))
abbrev n_ReceiveQueue_oldest_tick : List Str := ["self"]
theorem sc_ReceiveQueue_oldest_tick : FnScope n_ReceiveQueue_oldest_tick ["self"] (defScope s_ReceiveQueue_oldest_tick) := C8.fnScope_by (by decide +kernel)
theorem ln_ReceiveQueue_oldest_tick {K : PySem.W.Frag} : ∀ vs H Q E, sp_ReceiveQueue_oldest_tick K vs H Q E → vs.length = (["self"] : List Str).length := by
  intro vs H Q E h
  unfold sp_ReceiveQueue_oldest_tick at h
  repeat' (first | (obtain ⟨rfl, _⟩ := h; exact rfl) | (obtain ⟨_, h⟩ := h))
abbrev n_ReceiveQueue_bytes_held : List Str := ["self"]
theorem sc_ReceiveQueue_bytes_held : FnScope n_ReceiveQueue_bytes_held ["self"] (defScope s_ReceiveQueue_bytes_held) := C8.fnScope_by (by decide +kernel)
theorem ln_ReceiveQueue_bytes_held {K : PySem.W.Frag} : ∀ vs H Q E, sp_ReceiveQueue_bytes_held K vs H Q E → vs.length = (["self"] : List Str).length := by
  intro vs H Q E h
  unfold sp_ReceiveQueue_bytes_held at h
  repeat' (first | (obtain ⟨rfl, _⟩ := h; exact rfl) | (obtain ⟨_, h⟩ := h))
abbrev n__law_agrees : List Str := ["_law_queue", "_law_rows", "_law_capacity", "_law_contents", "_law_k", "_law_first", "_law_tick"]
theorem sc__law_agrees : FnScope n__law_agrees ["_law_queue", "_law_rows", "_law_capacity"] (defScope s__law_agrees) := C8.fnScope_by (by decide +kernel)
theorem ln__law_agrees {K : PySem.W.Frag} : ∀ vs H Q E, sp__law_agrees K vs H Q E → vs.length = (["_law_queue", "_law_rows", "_law_capacity"] : List Str).length := by
  intro vs H Q E h
  unfold sp__law_agrees at h
  repeat' (first | (obtain ⟨rfl, _⟩ := h; exact rfl) | (obtain ⟨_, h⟩ := h))
abbrev n_law : List Str := ["_law_script", "_law_state_here", "_law_capacity", "_law_queue", "_law_other", "_law_rows", "_law_tick", "_law_cell", "_law_many", "_law_takes_here", "_law_k"]
theorem sc_law : FnScope n_law ["_law_script"] (defScope s_law) := C8.fnScope_by (by decide +kernel)
theorem ln_law {K : PySem.W.Frag} : ∀ vs H Q E, sp_law K vs H Q E → vs.length = (["_law_script"] : List Str).length := by
  intro vs H Q E h
  unfold sp_law at h
  repeat' (first | (obtain ⟨rfl, _⟩ := h; exact rfl) | (obtain ⟨_, h⟩ := h))
section
variable {P : Program} {w : World} {K : PySem.W.Frag} {h base : Heap} {mg : Str → Option Value} (c : He.SaysD fa fn K) (X0 : K.In h) (G : h.Ns mainGlobals mg)
include c X0 G
theorem b_int : mg "int" = none := He.free_ok X0 G (c.fact 27 rfl)
theorem b_abs : mg "abs" = none := He.free_ok X0 G (c.fact 28 rfl)
theorem b_len : mg "len" = none := He.free_ok X0 G (c.fact 25 rfl)
theorem b_isinstance : mg "isinstance" = none := He.free_ok X0 G (c.fact 23 rfl)
theorem b_bool : mg "bool" = none := He.free_ok X0 G (c.fact 29 rfl)
theorem b_tuple : mg "tuple" = none := He.free_ok X0 G (c.fact 24 rfl)
theorem b_list : mg "list" = none := He.free_ok X0 G (c.fact 30 rfl)
theorem b_range : mg "range" = none := He.free_ok X0 G (c.fact 26 rfl)
omit X0 G
theorem tx_ReceiveQueue : Tx_ReceiveQueue K where
  cl := He.cls_ok (c.fact 11 rfl)
  n_capacity := He.noat_ok (c.fact 20 rfl)
  n_rows := He.noat_ok (c.fact 21 rfl)
  n_held := He.noat_ok (c.fact 22 rfl)
end
section
variable {P : Program} {w : World} {K : PySem.W.Frag} {h base : Heap} {mg : Str → Option Value} (c : He.SaysD fa fn K) (X0 : K.In h) (G : h.Ns mainGlobals mg)
include c X0 G
theorem ok__law_state : C8.Cal P w K mg base 1 "_law_state" (sp__law_state K) [] := by
  obtain ⟨fd, F⟩ := c.def_ 7 (d := d__law_state) rfl
  haveI := tx_ReceiveQueue c
  refine calX (fnX (t := t__law_state K) F sc__law_state ln__law_state (fun vs H Q E h => pu__law_state h) (fun cdv A outer s H E hr => ?_)) (He.glo_ok X0 G (c.fact 0 rfl)) F.kp (FunD.bindsN F (ps := ["_law_script"]) fun _ _ _ _ _ _ us hl => match us, hl with | [_], _ => rfl) .nil
  exact pss_cons (ps_set (i := 1) sc__law_state.nd rfl (by first | exact Or.inl rfl | exact Or.inr rfl) (pe_int))
      (pss_cons (ps_for PassesOwn.never rfl (pi_list (pv 0)) (pg_name (i := 2) sc__law_state.nd rfl (by first | exact Or.inl rfl | exact Or.inr rfl)) (pss_one (ps_set (i := 1) sc__law_state.nd rfl (by first | exact Or.inl rfl | exact Or.inr rfl) (pe_op op_modI (pe_callTy call_intI (by rfl) (b_int c X0 G) (by decide +kernel) (pa_cons (pe_op op_addI (pe_op op_mulI (pv 1) (pe_int)) (pv 2)) (pa_nil))) (pe_int)))))
      (pss_one (ps_ret (pe_lst (pa_cons (pe_lc (own := [("_law_cell", 2)]) (g := gName 2) (tt := tYes) (te := tCB rAbs (tCons (tVar 2) (tNil))) rfl sc__law_state.nd (pi_list (pv 0)) (blkOk_by (own := [("_law_cell", 2)]) (N := n__law_state) (sc := defScope s__law_state) (by decide +kernel)) (fun _ _ _ _ _ => pg_name (i := 2) sc__law_state.nd rfl (by first | exact Or.inl rfl | exact Or.inr rfl)) (fun _ _ _ _ _ => pts_nil) (fun _ _ _ _ _ => pe_callB call_absI (by rfl) (b_abs c X0 G) (by decide +kernel) (pa_cons (pv 2) (pa_nil)))) (pa_cons (pe_op op_addI (pv 1) (pe_int)) (pa_nil)))))))
theorem ok__law_draw : C8.Cal P w K mg base 1 "_law_draw" (sp__law_draw K) [] := by
  obtain ⟨fd, F⟩ := c.def_ 8 (d := d__law_draw) rfl
  haveI := tx_ReceiveQueue c
  refine calX (fnX (t := t__law_draw K) F sc__law_draw ln__law_draw (fun vs H Q E h => pu__law_draw h) (fun cdv A outer s H E hr => ?_)) (He.glo_ok X0 G (c.fact 1 rfl)) F.kp (FunD.bindsN F (ps := ["_law_state_here", "_law_many"]) fun _ _ _ _ _ _ us hl => match us, hl with | [_, _], _ => rfl) .nil
  exact pss_cons (ps_set (i := 2) sc__law_draw.nd rfl (by first | exact Or.inl rfl | exact Or.inr rfl) (pe_ix ix_list (pv 0) (pe_int) (fun _ _ => rfl)))
      (pss_cons (ps_while PassesOwn.never (PW.pt (pw_and (pt_cmpR op_gtI (pe_callB call_lenI (by rfl) (b_len c X0 G) (by decide +kernel) (pa_cons (pv 2) (pa_nil))) (pe_int) (nomark _)) (pw_and1 (pt_cmpR op_eq (pe_ix ix_list (pv 2) (pe_int) (fun _ _ => rfl)) (pe_int) (nomark _))))) (pss_one (ps_expr (pe_bm PySem.F.plainAttrs_list PySem.F.slot_list_pop PySem.F.type_list_pop mt_popAt (pv 2) (pa_cons (pe_int) (pa_nil))))))
      (pss_cons (ps_if (pt_cmpR op_gtI (pe_callB call_lenI (by rfl) (b_len c X0 G) (by decide +kernel) (pa_cons (pv 2) (pa_nil))) (pe_int) (nomark _)) (pss_cons (ps_set (i := 3) sc__law_draw.nd rfl (by first | exact Or.inl rfl | exact Or.inr rfl) (pe_ix ix_list (pv 2) (pe_int) (fun _ _ => rfl)))
      (pss_cons (ps_asg (pe_op op_divI (pv 3) (pv 1)) (pg_sub (pv 2) (pe_int) set_list))
      (pss_one (ps_ret (pe_op op_modI (pe_callTy call_intI (by rfl) (b_int c X0 G) (by decide +kernel) (pa_cons (pv 3) (pa_nil))) (pv 1)))))) (pss_nil))
      (pss_cons (ps_set (i := 4) sc__law_draw.nd rfl (by first | exact Or.inl rfl | exact Or.inr rfl) (pe_op op_modI (pe_callTy call_intI (by rfl) (b_int c X0 G) (by decide +kernel) (pa_cons (pe_op op_addI (pe_op op_mulI (pe_ix ix_list (pv 0) (pe_int) (fun _ _ => rfl)) (pe_int)) (pe_int)) (pa_nil))) (pe_int)))
      (pss_cons (ps_asg (pv 4) (pg_sub (pv 0) (pe_int) set_list))
      (pss_one (ps_ret (pe_op op_modI (pe_callTy call_intI (by rfl) (b_int c X0 G) (by decide +kernel) (pa_cons (pe_op op_divI (pv 4) (pe_int)) (pa_nil))) (pv 1))))))))
theorem ok_ReceiveQueue_init : C8.Mak P w K mg base 1 "ReceiveQueue" (He.ga K "ReceiveQueue") (sp_ReceiveQueue_init K) [] := by
  obtain ⟨fd, F⟩ := c.def_ 0 (d := d_ReceiveQueue_init) rfl
  haveI := tx_ReceiveQueue c
  refine makX (He.mkr_ok (c.fact 12 rfl)) (He.glo_ok X0 G (c.fact 10 rfl)) (fnX (t := t_ReceiveQueue_init K) F sc_ReceiveQueue_init ln_ReceiveQueue_init (fun vs H Q E h => pu_ReceiveQueue_init h) (fun cdv A outer s H E hr => ?_)) (FunD.bindsN F (ps := ["self", "capacity"]) fun _ _ _ _ _ _ us hl => match us, hl with | [_, _], _ => rfl)
  exact pss_cons (ps_fld (pv 0) (pv 1) rfl)
      (pss_cons (ps_fld (pv 0) (pe_lst (pa_nil)) rfl)
      (pss_one (ps_fld (pv 0) (pe_int) rfl)))
theorem ok__law_pick : C8.Cal P w K mg base 2 "_law_pick" (sp__law_pick K) [] := by
  obtain ⟨fd, F⟩ := c.def_ 9 (d := d__law_pick) rfl
  haveI := tx_ReceiveQueue c
  refine calX (fnX (t := t__law_pick K) F sc__law_pick ln__law_pick (fun vs H Q E h => pu__law_pick h) (fun cdv A outer s H E hr => ?_)) (He.glo_ok X0 G (c.fact 2 rfl)) F.kp (FunD.bindsN F (ps := ["_law_state_here", "_law_row"]) fun _ _ _ _ _ _ us hl => match us, hl with | [_, _], _ => rfl) .nil
  exact pss_one (ps_ret (pe_ix ix_list (pv 1) (C8.pe_c (ok__law_draw c X0 G) hr (by decide) rfl (pa_cons (pv 0) (pa_cons (pe_callB call_lenI (by rfl) (b_len c X0 G) (by decide +kernel) (pa_cons (pv 1) (pa_nil))) (pa_nil)))) (fun _ _ => rfl)))
theorem ok__law_is_integer : C8.Cal P w K mg base 1 "_law_is_integer" (sp__law_is_integer K) [] := by
  obtain ⟨fd, F⟩ := c.def_ 10 (d := d__law_is_integer) rfl
  haveI := tx_ReceiveQueue c
  refine calX (fnX (t := t__law_is_integer K) F sc__law_is_integer ln__law_is_integer (fun vs H Q E h => pu__law_is_integer h) (fun cdv A outer s H E hr => ?_)) (He.glo_ok X0 G (c.fact 3 rfl)) F.kp (FunD.bindsN F (ps := ["_law_actual"]) fun _ _ _ _ _ _ us hl => match us, hl with | [_], _ => rfl) .nil
  exact pss_one (ps_ret (pe_and (pe_callB call_isi (by rfl) (b_isinstance c X0 G) (by decide +kernel) (pa_cons (pv 0) (pa_cons (pe_bltn (by rfl) (b_int c X0 G) (by decide +kernel) rfl) (pa_nil)))) (pe_one (pe_not (pe_callB call_isi (by rfl) (b_isinstance c X0 G) (by decide +kernel) (pa_cons (pv 0) (pa_cons (pe_bltn (by rfl) (b_bool c X0 G) (by decide +kernel) rfl) (pa_nil))))))))
theorem ok__law_same0 : C8.Cal P w K mg base 2 "_law_same" (sp__law_same0 K) [] := by
  obtain ⟨fd, F⟩ := c.def_ 11 (d := d__law_same) rfl
  haveI := tx_ReceiveQueue c
  refine calX (fnX (t := t__law_same0 K) F sc__law_same ln__law_same0 (fun vs H Q E h => pu__law_same0 h) (fun cdv A outer s H E hr => ?_)) (He.glo_ok X0 G (c.fact 4 rfl)) F.kp (FunD.bindsN F (ps := ["_law_told", "_law_due"]) fun _ _ _ _ _ _ us hl => match us, hl with | [_, _], _ => rfl) .nil
  exact pss_cons (ps_if (pt_val (pe_callB call_isi (by rfl) (b_isinstance c X0 G) (by decide +kernel) (pa_cons (pv 1) (pa_cons (pe_bltn (by rfl) (b_tuple c X0 G) (by decide +kernel) rfl) (pa_nil))))) (pss_one (ps_ret (pe_and (pe_callB call_isi (by rfl) (b_isinstance c X0 G) (by decide +kernel) (pa_cons (pv 0) (pa_cons (pe_bltn (by rfl) (b_tuple c X0 G) (by decide +kernel) rfl) (pa_nil)))) (pe_and (pe_cmpR op_eq (pe_callB call_lenI (by rfl) (b_len c X0 G) (by decide +kernel) (pa_cons (pv 0) (pa_nil))) (pe_int) (nomark _)) (pe_and (pe_cmpR op_eq (pe_ix ix_tup (pv 0) (pe_int) (fun _ _ => rfl)) (pe_str) (nomark _)) (pe_one (pe_nev))))))) (pss_nil))
      (pss_cons (ps_if (pt_cmpR op_isNI (pv 1) (pe_non) (nomark _)) (pss_one (ps_ret (pe_cmpR op_isNI (pv 0) (pe_non) (nomark _)))) (pss_nil))
      (pss_one (ps_ret (pe_and (C8.pe_c (ok__law_is_integer c X0 G) hr (by decide) rfl (pa_cons (pv 0) (pa_nil))) (pe_one (pe_cmpR (op_eqD hr.units) (pv 0) (pv 1) (nomark _)))))))
theorem ok__law_same : C8.Cal P w K mg base 3 "_law_same" (sp__law_same K) [] := by
  obtain ⟨fd, F⟩ := c.def_ 11 (d := d__law_same) rfl
  haveI := tx_ReceiveQueue c
  refine calX (fnX (t := t__law_same K) F sc__law_same ln__law_same (fun vs H Q E h => pu__law_same h) (fun cdv A outer s H E hr => ?_)) (He.glo_ok X0 G (c.fact 4 rfl)) F.kp (FunD.bindsN F (ps := ["_law_told", "_law_due"]) fun _ _ _ _ _ _ us hl => match us, hl with | [_, _], _ => rfl) .nil
  exact pss_cons (ps_if (pt_val (pe_callB call_isi (by rfl) (b_isinstance c X0 G) (by decide +kernel) (pa_cons (pv 1) (pa_cons (pe_bltn (by rfl) (b_tuple c X0 G) (by decide +kernel) rfl) (pa_nil))))) (pss_one (ps_ret (pe_and (pe_callB call_isi (by rfl) (b_isinstance c X0 G) (by decide +kernel) (pa_cons (pv 0) (pa_cons (pe_bltn (by rfl) (b_tuple c X0 G) (by decide +kernel) rfl) (pa_nil)))) (pe_and (pe_cmpR op_eq (pe_callB call_lenI (by rfl) (b_len c X0 G) (by decide +kernel) (pa_cons (pv 0) (pa_nil))) (pe_int) (nomark _)) (pe_and (pe_cmpR op_eq (pe_ix ix_tup (pv 0) (pe_int) (fun _ _ => rfl)) (pe_str) (nomark _)) (pe_one (C8.pe_c (ok__law_same0 c X0 G) hr (by decide) rfl (pa_cons (pe_ix ix_tup (pv 0) (pe_int) (fun _ _ => rfl)) (pa_cons (pe_ix ix_tup (pv 1) (pe_int) (fun _ _ => rfl)) (pa_nil)))))))))) (pss_nil))
      (pss_cons (ps_if (pt_cmpR op_isNI (pv 1) (pe_non) (nomark _)) (pss_one (ps_ret (pe_cmpR op_isNI (pv 0) (pe_non) (nomark _)))) (pss_nil))
      (pss_one (ps_ret (pe_and (C8.pe_c (ok__law_is_integer c X0 G) hr (by decide) rfl (pa_cons (pv 0) (pa_nil))) (pe_one (pe_cmpR (op_eqD hr.units) (pv 0) (pv 1) (nomark _)))))))
theorem ok_ReceiveQueue_take : C8.Met P w K mg base 1 (He.ga K "ReceiveQueue") "take" (sp_ReceiveQueue_take K) [] := by
  obtain ⟨fd, F⟩ := c.def_ 3 (d := d_ReceiveQueue_take) rfl
  haveI := tx_ReceiveQueue c
  refine metX (He.cls_ok (c.fact 11 rfl)) (He.meth_ok (c.fact 16 rfl)) (fnX (t := t_ReceiveQueue_take K) F sc_ReceiveQueue_take ln_ReceiveQueue_take (fun vs H Q E h => pu_ReceiveQueue_take h) (fun cdv A outer s H E hr => ?_)) (FunD.bindsN F (ps := ["self"]) fun _ _ _ _ _ _ us hl => match us, hl with | [_], _ => rfl)
  exact pss_cons (ps_if (pt_cmpR op_eq (pe_callB call_lenI (by rfl) (b_len c X0 G) (by decide +kernel) (pa_cons (pe_fld (pv 0) rfl) (pa_nil))) (pe_int) (nomark _)) (pss_one (ps_ret (pe_non))) (pss_nil))
      (pss_cons (ps_set (i := 1) sc_ReceiveQueue_take.nd rfl (by first | exact Or.inl rfl | exact Or.inr rfl) (pe_ix ix_tup (pe_bm PySem.F.plainAttrs_list PySem.F.slot_list_pop PySem.F.type_list_pop mt_popAt (pe_fld (pv 0) rfl) (pa_cons (pe_int) (pa_nil))) (pe_int) (fun _ _ => rfl)))
      (pss_cons (ps_if (pt_not (pt_val (pe_callB call_isi (by rfl) (b_isinstance c X0 G) (by decide +kernel) (pa_cons (pv 1) (pa_cons (pe_bltn (by rfl) (b_tuple c X0 G) (by decide +kernel) rfl) (pa_nil)))))) (pss_one (ps_fldaug (pv 0) (pe_int) in_sub)) (pss_nil))
      (pss_one (ps_ret (pv 1)))))
theorem ok__law_takes : C8.Cal P w K mg base 4 "_law_takes" (sp__law_takes K) [] := by
  obtain ⟨fd, F⟩ := c.def_ 15 (d := d__law_takes) rfl
  haveI := tx_ReceiveQueue c
  refine calX (fnX (t := t__law_takes K) F sc__law_takes ln__law_takes (fun vs H Q E h => pu__law_takes h) (fun cdv A outer s H E hr => ?_)) (He.glo_ok X0 G (c.fact 8 rfl)) F.kp (FunD.bindsN F (ps := ["_law_queue", "_law_rows"]) fun _ _ _ _ _ _ us hl => match us, hl with | [_, _], _ => rfl) .nil
  exact pss_cons (ps_set (i := 2) sc__law_takes.nd rfl (by first | exact Or.inl rfl | exact Or.inr rfl) (pe_non))
      (pss_cons (ps_if (pt_cmpR op_gtI (pe_callB call_lenI (by rfl) (b_len c X0 G) (by decide +kernel) (pa_cons (pv 1) (pa_nil))) (pe_int) (nomark _)) (pss_one (ps_set (i := 2) sc__law_takes.nd rfl (by first | exact Or.inl rfl | exact Or.inr rfl) (pe_ix ix_list (pe_bm PySem.F.plainAttrs_list PySem.F.slot_list_pop PySem.F.type_list_pop mt_popAt (pv 1) (pa_cons (pe_int) (pa_nil))) (pe_int) (fun _ _ => rfl)))) (pss_nil))
      (pss_one (ps_ret (C8.pe_c (ok__law_same c X0 G) hr (by decide) rfl (pa_cons (C8.pe_mt0 (ok_ReceiveQueue_take c X0 G) hr (by decide) (pv 0)) (pa_cons (pv 2) (pa_nil)))))))
theorem ok_ReceiveQueue_arrive : C8.Met P w K mg base 1 (He.ga K "ReceiveQueue") "arrive" (sp_ReceiveQueue_arrive K) [] := by
  obtain ⟨fd, F⟩ := c.def_ 1 (d := d_ReceiveQueue_arrive) rfl
  haveI := tx_ReceiveQueue c
  refine metX (He.cls_ok (c.fact 11 rfl)) (He.meth_ok (c.fact 14 rfl)) (fnX (t := t_ReceiveQueue_arrive K) F sc_ReceiveQueue_arrive ln_ReceiveQueue_arrive (fun vs H Q E h => pu_ReceiveQueue_arrive h) (fun cdv A outer s H E hr => ?_)) (FunD.bindsN F (ps := ["self", "byte", "tick"]) fun _ _ _ _ _ _ us hl => match us, hl with | [_, _, _], _ => rfl)
  exact pss_cons (ps_if (pt_cmpR op_ltI (pe_fld (pv 0) rfl) (pe_fld (pv 0) rfl) (nomark _)) (pss_cons (ps_expr (pe_bm PySem.F.plainAttrs_list PySem.F.slot_list_append PySem.F.type_list_append mt_append (pe_fld (pv 0) rfl) (pa_cons (pe_tup (pa_cons (pv 1) (pa_cons (pv 2) (pa_nil)))) (pa_nil))))
      (pss_cons (ps_fldaug (pv 0) (pe_int) in_add)
      (pss_one (ps_ret (pe_bl))))) (pss_nil))
      (pss_cons (ps_asg (pe_ix ix_list (pe_fld (pv 0) rfl) (pe_un un_negI (pe_int)) (fun _ _ => rfl)) (pg_tup rfl (pgs_cons (pg_name (i := 3) sc_ReceiveQueue_arrive.nd rfl (by first | exact Or.inl rfl | exact Or.inr rfl)) (pgs_cons (pg_name (i := 4) sc_ReceiveQueue_arrive.nd rfl (by first | exact Or.inl rfl | exact Or.inr rfl)) (pgs_nil)))))
      (pss_cons (ps_if (pt_val (pe_callB call_isi (by rfl) (b_isinstance c X0 G) (by decide +kernel) (pa_cons (pv 3) (pa_cons (pe_bltn (by rfl) (b_tuple c X0 G) (by decide +kernel) rfl) (pa_nil))))) (pss_one (ps_asg (pe_tup (pa_cons (pe_tup (pa_cons (pe_str) (pa_cons (pe_op op_addI (pe_ix ix_tup (pv 3) (pe_int) (fun _ _ => rfl)) (pe_int)) (pa_nil)))) (pa_cons (pv 4) (pa_nil)))) (pg_sub (pe_fld (pv 0) rfl) (pe_un un_negI (pe_int)) set_list))) (pss_one (ps_expr (pe_bm PySem.F.plainAttrs_list PySem.F.slot_list_append PySem.F.type_list_append mt_append (pe_fld (pv 0) rfl) (pa_cons (pe_tup (pa_cons (pe_tup (pa_cons (pe_str) (pa_cons (pe_int) (pa_nil)))) (pa_cons (pv 2) (pa_nil)))) (pa_nil))))))
      (pss_one (ps_ret (pe_bl)))))
theorem ok__law_held : C8.Cal P w K mg base 1 "_law_held" (sp__law_held K) [] := by
  obtain ⟨fd, F⟩ := c.def_ 12 (d := d__law_held) rfl
  haveI := tx_ReceiveQueue c
  refine calX (fnX (t := t__law_held K) F sc__law_held ln__law_held (fun vs H Q E h => pu__law_held h) (fun cdv A outer s H E hr => ?_)) (He.glo_ok X0 G (c.fact 5 rfl)) F.kp (FunD.bindsN F (ps := ["_law_rows"]) fun _ _ _ _ _ _ us hl => match us, hl with | [_], _ => rfl) .nil
  exact pss_one (ps_ret (pe_callB call_lenI (by rfl) (b_len c X0 G) (by decide +kernel) (pa_cons (pe_lc (own := [("_law_row", 1)]) (g := gName 1) (tt := tNot (tB (tCB (rIsi K) (tCons (tOp (rIxL K) (tVar 1) (tC (.int 0))) (tCons (tC (.ty "tuple")) (tNil)))))) (te := tVar 1) rfl sc__law_held.nd (pi_list (pv 0)) (blkOk_by (own := [("_law_row", 1)]) (N := n__law_held) (sc := defScope s__law_held) (by decide +kernel)) (fun _ _ _ _ _ => pg_name (i := 1) sc__law_held.nd rfl (by first | exact Or.inl rfl | exact Or.inr rfl)) (fun _ _ _ _ _ => pts_one (pt_not (pt_val (pe_callB call_isi (by rfl) (b_isinstance c X0 G) (by decide +kernel) (pa_cons (pe_ix ix_list (pv 1) (pe_int) (fun _ _ => rfl)) (pa_cons (pe_bltn (by rfl) (b_tuple c X0 G) (by decide +kernel) rfl) (pa_nil))))))) (fun _ _ _ _ _ => pv 1)) (pa_nil))))
theorem ok__law_arrives : C8.Cal P w K mg base 2 "_law_arrives" (sp__law_arrives K) [] := by
  obtain ⟨fd, F⟩ := c.def_ 14 (d := d__law_arrives) rfl
  haveI := tx_ReceiveQueue c
  refine calX (fnX (t := t__law_arrives K) F sc__law_arrives ln__law_arrives (fun vs H Q E h => pu__law_arrives h) (fun cdv A outer s H E hr => ?_)) (He.glo_ok X0 G (c.fact 7 rfl)) F.kp (FunD.bindsN F (ps := ["_law_queue", "_law_rows", "_law_capacity", "_law_byte", "_law_tick"]) fun _ _ _ _ _ _ us hl => match us, hl with | [_, _, _, _, _], _ => rfl) .nil
  exact pss_cons (ps_set (i := 5) sc__law_arrives.nd rfl (by first | exact Or.inl rfl | exact Or.inr rfl) (C8.pe_mt (ok_ReceiveQueue_arrive c X0 G) hr (by decide) (pv 0) (pa_cons (pv 3) (pa_cons (pv 4) (pa_nil)))))
      (pss_cons (ps_if (pt_cmpR op_ltI (C8.pe_c (ok__law_held c X0 G) hr (by decide) rfl (pa_cons (pv 1) (pa_nil))) (pv 2) (nomark _)) (pss_cons (ps_expr (pe_bm PySem.F.plainAttrs_list PySem.F.slot_list_append PySem.F.type_list_append mt_append (pv 1) (pa_cons (pe_lst (pa_cons (pv 3) (pa_cons (pv 4) (pa_nil)))) (pa_nil))))
      (pss_one (ps_ret (pe_cmpR op_isBlI (pv 5) (pe_bl) (nomark _))))) (pss_nil))
      (pss_cons (ps_set (i := 6) sc__law_arrives.nd rfl (by first | exact Or.inl rfl | exact Or.inr rfl) (pe_ix ix_list (pv 1) (pe_op op_subI (pe_callB call_lenI (by rfl) (b_len c X0 G) (by decide +kernel) (pa_cons (pv 1) (pa_nil))) (pe_int)) (fun _ _ => rfl)))
      (pss_cons (ps_if (pt_val (pe_callB call_isi (by rfl) (b_isinstance c X0 G) (by decide +kernel) (pa_cons (pe_ix ix_list (pv 6) (pe_int) (fun _ _ => rfl)) (pa_cons (pe_bltn (by rfl) (b_tuple c X0 G) (by decide +kernel) rfl) (pa_nil))))) (pss_one (ps_asg (pe_tup (pa_cons (pe_str) (pa_cons (pe_op op_addI (pe_ix ix_tup (pe_ix ix_list (pv 6) (pe_int) (fun _ _ => rfl)) (pe_int) (fun _ _ => rfl)) (pe_int)) (pa_nil)))) (pg_sub (pv 6) (pe_int) set_list))) (pss_one (ps_expr (pe_bm PySem.F.plainAttrs_list PySem.F.slot_list_append PySem.F.type_list_append mt_append (pv 1) (pa_cons (pe_lst (pa_cons (pe_tup (pa_cons (pe_str) (pa_cons (pe_int) (pa_nil)))) (pa_cons (pv 4) (pa_nil)))) (pa_nil))))))
      (pss_one (ps_ret (pe_cmpR op_isBlI (pv 5) (pe_bl) (nomark _)))))))
theorem ok_ReceiveQueue_contents : C8.Met P w K mg base 1 (He.ga K "ReceiveQueue") "contents" (sp_ReceiveQueue_contents K) [] := by
  obtain ⟨fd, F⟩ := c.def_ 6 (d := d_ReceiveQueue_contents) rfl
  haveI := tx_ReceiveQueue c
  refine metX (He.cls_ok (c.fact 11 rfl)) (He.meth_ok (c.fact 19 rfl)) (fnX (t := t_ReceiveQueue_contents K) F sc_ReceiveQueue_contents ln_ReceiveQueue_contents (fun vs H Q E h => pu_ReceiveQueue_contents h) (fun cdv A outer s H E hr => ?_)) (FunD.bindsN F (ps := ["self"]) fun _ _ _ _ _ _ us hl => match us, hl with | [_], _ => rfl)
  exact pss_one (ps_ret (pe_lc (own := [("row", 1)]) (g := gName 1) (tt := tYes) (te := tOp (rIxT K) (tVar 1) (tC (.int 0))) rfl sc_ReceiveQueue_contents.nd (pi_list (pe_fld (pv 0) rfl)) (blkOk_by (own := [("row", 1)]) (N := n_ReceiveQueue_contents) (sc := defScope s_ReceiveQueue_contents) (by decide +kernel)) (fun _ _ _ _ _ => pg_name (i := 1) sc_ReceiveQueue_contents.nd rfl (by first | exact Or.inl rfl | exact Or.inr rfl)) (fun _ _ _ _ _ => pts_nil) (fun _ _ _ _ _ => pe_ix ix_tup (pv 1) (pe_int) (fun _ _ => rfl))))
theorem ok_ReceiveQueue_first : C8.Met P w K mg base 1 (He.ga K "ReceiveQueue") "first" (sp_ReceiveQueue_first K) [] := by
  obtain ⟨fd, F⟩ := c.def_ 2 (d := d_ReceiveQueue_first) rfl
  haveI := tx_ReceiveQueue c
  refine metX (He.cls_ok (c.fact 11 rfl)) (He.meth_ok (c.fact 15 rfl)) (fnX (t := t_ReceiveQueue_first K) F sc_ReceiveQueue_first ln_ReceiveQueue_first (fun vs H Q E h => pu_ReceiveQueue_first h) (fun cdv A outer s H E hr => ?_)) (FunD.bindsN F (ps := ["self"]) fun _ _ _ _ _ _ us hl => match us, hl with | [_], _ => rfl)
  exact pss_cons (ps_if (pt_cmpR op_eq (pe_callB call_lenI (by rfl) (b_len c X0 G) (by decide +kernel) (pa_cons (pe_fld (pv 0) rfl) (pa_nil))) (pe_int) (nomark _)) (pss_one (ps_ret (pe_non))) (pss_nil))
      (pss_one (ps_ret (pe_ix ix_tup (pe_ix ix_list (pe_fld (pv 0) rfl) (pe_int) (fun _ _ => rfl)) (pe_int) (fun _ _ => rfl))))
theorem ok_ReceiveQueue_oldest_tick : C8.Met P w K mg base 1 (He.ga K "ReceiveQueue") "oldest_tick" (sp_ReceiveQueue_oldest_tick K) [] := by
  obtain ⟨fd, F⟩ := c.def_ 4 (d := d_ReceiveQueue_oldest_tick) rfl
  haveI := tx_ReceiveQueue c
  refine metX (He.cls_ok (c.fact 11 rfl)) (He.meth_ok (c.fact 17 rfl)) (fnX (t := t_ReceiveQueue_oldest_tick K) F sc_ReceiveQueue_oldest_tick ln_ReceiveQueue_oldest_tick (fun vs H Q E h => pu_ReceiveQueue_oldest_tick h) (fun cdv A outer s H E hr => ?_)) (FunD.bindsN F (ps := ["self"]) fun _ _ _ _ _ _ us hl => match us, hl with | [_], _ => rfl)
  exact pss_cons (ps_if (pt_cmpR op_eq (pe_callB call_lenI (by rfl) (b_len c X0 G) (by decide +kernel) (pa_cons (pe_fld (pv 0) rfl) (pa_nil))) (pe_int) (nomark _)) (pss_one (ps_ret (pe_non))) (pss_nil))
      (pss_one (ps_ret (pe_ix ix_tup (pe_ix ix_list (pe_fld (pv 0) rfl) (pe_int) (fun _ _ => rfl)) (pe_int) (fun _ _ => rfl))))
theorem ok_ReceiveQueue_bytes_held : C8.Met P w K mg base 1 (He.ga K "ReceiveQueue") "bytes_held" (sp_ReceiveQueue_bytes_held K) [] := by
  obtain ⟨fd, F⟩ := c.def_ 5 (d := d_ReceiveQueue_bytes_held) rfl
  haveI := tx_ReceiveQueue c
  refine metX (He.cls_ok (c.fact 11 rfl)) (He.meth_ok (c.fact 18 rfl)) (fnX (t := t_ReceiveQueue_bytes_held K) F sc_ReceiveQueue_bytes_held ln_ReceiveQueue_bytes_held (fun vs H Q E h => pu_ReceiveQueue_bytes_held h) (fun cdv A outer s H E hr => ?_)) (FunD.bindsN F (ps := ["self"]) fun _ _ _ _ _ _ us hl => match us, hl with | [_], _ => rfl)
  exact pss_one (ps_ret (pe_fld (pv 0) rfl))
theorem ok__law_agrees : C8.Cal P w K mg base 4 "_law_agrees" (sp__law_agrees K) [] := by
  obtain ⟨fd, F⟩ := c.def_ 13 (d := d__law_agrees) rfl
  haveI := tx_ReceiveQueue c
  refine calX (fnX (t := t__law_agrees K) F sc__law_agrees ln__law_agrees (fun vs H Q E h => pu__law_agrees h) (fun cdv A outer s H E hr => ?_)) (He.glo_ok X0 G (c.fact 6 rfl)) F.kp (FunD.bindsN F (ps := ["_law_queue", "_law_rows", "_law_capacity"]) fun _ _ _ _ _ _ us hl => match us, hl with | [_, _, _], _ => rfl) .nil
  exact pss_cons (ps_set (i := 3) sc__law_agrees.nd rfl (by first | exact Or.inl rfl | exact Or.inr rfl) (C8.pe_mt0 (ok_ReceiveQueue_contents c X0 G) hr (by decide) (pv 0)))
      (pss_cons (ps_if (PW.pt (pw_or (pt_not (pt_val (pe_callB call_isi (by rfl) (b_isinstance c X0 G) (by decide +kernel) (pa_cons (pv 3) (pa_cons (pe_bltn (by rfl) (b_list c X0 G) (by decide +kernel) rfl) (pa_nil)))))) (pw_or1 (pt_cmpR op_ne (pe_callB call_lenI (by rfl) (b_len c X0 G) (by decide +kernel) (pa_cons (pv 3) (pa_nil))) (pe_callB call_lenI (by rfl) (b_len c X0 G) (by decide +kernel) (pa_cons (pv 1) (pa_nil))) (nomark _))))) (pss_one (ps_ret (pe_bl))) (pss_nil))
      (pss_cons (ps_for PassesOwn.never rfl (pi_range1 rfl (b_range c X0 G) (pa_cons (pe_callB call_lenI (by rfl) (b_len c X0 G) (by decide +kernel) (pa_cons (pv 1) (pa_nil))) (pa_nil))) (pg_name (i := 4) sc__law_agrees.nd rfl (by first | exact Or.inl rfl | exact Or.inr rfl)) (pss_one (ps_if (pt_not (pt_val (C8.pe_c (ok__law_same c X0 G) hr (by decide) rfl (pa_cons (pe_ix ix_list (pv 3) (pv 4) (fun _ _ => rfl)) (pa_cons (pe_ix ix_list (pe_ix ix_list (pv 1) (pv 4) (fun _ _ => rfl)) (pe_int) (fun _ _ => rfl)) (pa_nil)))))) (pss_one (ps_ret (pe_bl))) (pss_nil))))
      (pss_cons (ps_expr (pe_bm PySem.F.plainAttrs_list PySem.F.slot_list_append PySem.F.type_list_append mt_append (pv 3) (pa_cons (pe_int) (pa_nil))))
      (pss_cons (ps_set (i := 5) sc__law_agrees.nd rfl (by first | exact Or.inl rfl | exact Or.inr rfl) (pe_non))
      (pss_cons (ps_set (i := 6) sc__law_agrees.nd rfl (by first | exact Or.inl rfl | exact Or.inr rfl) (pe_non))
      (pss_cons (ps_if (pt_cmpR op_gtI (pe_callB call_lenI (by rfl) (b_len c X0 G) (by decide +kernel) (pa_cons (pv 1) (pa_nil))) (pe_int) (nomark _)) (pss_cons (ps_set (i := 5) sc__law_agrees.nd rfl (by first | exact Or.inl rfl | exact Or.inr rfl) (pe_ix ix_list (pe_ix ix_list (pv 1) (pe_int) (fun _ _ => rfl)) (pe_int) (fun _ _ => rfl)))
      (pss_one (ps_set (i := 6) sc__law_agrees.nd rfl (by first | exact Or.inl rfl | exact Or.inr rfl) (pe_ix ix_list (pe_ix ix_list (pv 1) (pe_int) (fun _ _ => rfl)) (pe_int) (fun _ _ => rfl))))) (pss_nil))
      (pss_cons (ps_if (PW.pt (pw_or (pt_not (pt_val (C8.pe_c (ok__law_same c X0 G) hr (by decide) rfl (pa_cons (C8.pe_mt0 (ok_ReceiveQueue_first c X0 G) hr (by decide) (pv 0)) (pa_cons (pv 5) (pa_nil)))))) (pw_or1 (pt_not (pt_val (C8.pe_c (ok__law_same c X0 G) hr (by decide) rfl (pa_cons (C8.pe_mt0 (ok_ReceiveQueue_oldest_tick c X0 G) hr (by decide) (pv 0)) (pa_cons (pv 6) (pa_nil))))))))) (pss_one (ps_ret (pe_bl))) (pss_nil))
      (pss_one (ps_ret (pe_and (C8.pe_c (ok__law_same c X0 G) hr (by decide) rfl (pa_cons (C8.pe_mt0 (ok_ReceiveQueue_bytes_held c X0 G) hr (by decide) (pv 0)) (pa_cons (C8.pe_c (ok__law_held c X0 G) hr (by decide) rfl (pa_cons (pv 1) (pa_nil))) (pa_nil)))) (pe_one (pe_cmpR op_eq (pe_fld (pv 0) rfl) (pv 2) (nomark _)))))))))))))
theorem ok_law {f : Addr} {fd : FuncData} (F : FunD K "law" "law" (defArgs s_law) (defBody s_law) (defScope s_law) [] [] f fd) : FnOk P w K mg base C8.CX0 5 f fd ["_law_script"] (sp_law K) := by
  haveI := tx_ReceiveQueue c
  refine fnX (t := t_law K) F sc_law ln_law (fun vs H Q E h => pu_law h) (fun cdv A outer s H E hr => ?_)
  exact pss_cons (ps_set (i := 1) sc_law.nd rfl (by first | exact Or.inl rfl | exact Or.inr rfl) (C8.pe_c (ok__law_state c X0 G) hr (by decide) rfl (pa_cons (pv 0) (pa_nil))))
      (pss_cons (ps_set (i := 2) sc_law.nd rfl (by first | exact Or.inl rfl | exact Or.inr rfl) (pe_op op_addI (pe_int) (C8.pe_c (ok__law_draw c X0 G) hr (by decide) rfl (pa_cons (pv 1) (pa_cons (pe_int) (pa_nil))))))
      (pss_cons (ps_if (pt_cmpR op_eq (C8.pe_c (ok__law_draw c X0 G) hr (by decide) rfl (pa_cons (pv 1) (pa_cons (pe_int) (pa_nil)))) (pe_int) (nomark _)) (pss_one (ps_set (i := 2) sc_law.nd rfl (by first | exact Or.inl rfl | exact Or.inr rfl) (pe_op op_addI (pe_int) (C8.pe_c (ok__law_draw c X0 G) hr (by decide) rfl (pa_cons (pv 1) (pa_cons (pe_int) (pa_nil))))))) (pss_nil))
      (pss_cons (ps_set (i := 3) sc_law.nd rfl (by first | exact Or.inl rfl | exact Or.inr rfl) (C8.pe_mk (ok_ReceiveQueue_init c X0 G) hr (by decide) rfl (pa_cons (pv 2) (pa_nil))))
      (pss_cons (ps_set (i := 4) sc_law.nd rfl (by first | exact Or.inl rfl | exact Or.inr rfl) (C8.pe_mk (ok_ReceiveQueue_init c X0 G) hr (by decide) rfl (pa_cons (pv 2) (pa_nil))))
      (pss_cons (ps_set (i := 5) sc_law.nd rfl (by first | exact Or.inl rfl | exact Or.inr rfl) (pe_lst (pa_nil)))
      (pss_cons (ps_set (i := 6) sc_law.nd rfl (by first | exact Or.inl rfl | exact Or.inr rfl) (C8.pe_c (ok__law_pick c X0 G) hr (by decide) rfl (pa_cons (pv 1) (pa_cons (pe_lst (pa_cons (pe_int) (pa_cons (pe_int) (pa_cons (pe_int) (pa_cons (C8.pe_c (ok__law_draw c X0 G) hr (by decide) rfl (pa_cons (pv 1) (pa_cons (pe_int) (pa_nil)))) (pa_nil)))))) (pa_nil)))))
      (pss_cons (ps_for PassesOwn.never rfl (pi_list (pe_slice sl_list (pv 0) (po_none) (po_some (pe_int)))) (pg_name (i := 7) sc_law.nd rfl (by first | exact Or.inl rfl | exact Or.inr rfl)) (pss_cons (ps_set (i := 8) sc_law.nd rfl (by first | exact Or.inl rfl | exact Or.inr rfl) (C8.pe_c (ok__law_pick c X0 G) hr (by decide) rfl (pa_cons (pv 1) (pa_cons (pe_lst (pa_cons (pe_int) (pa_cons (pe_int) (pa_cons (pe_int) (pa_cons (pe_int) (pa_cons (pe_op op_addI (pe_int) (C8.pe_c (ok__law_draw c X0 G) hr (by decide) rfl (pa_cons (pv 1) (pa_cons (pe_int) (pa_nil))))) (pa_nil))))))) (pa_nil)))))
      (pss_cons (ps_set (i := 9) sc_law.nd rfl (by first | exact Or.inl rfl | exact Or.inr rfl) (pe_cmpR op_ltI (C8.pe_c (ok__law_draw c X0 G) hr (by decide) rfl (pa_cons (pv 1) (pa_cons (pe_int) (pa_nil)))) (pe_int) (nomark _)))
      (pss_cons (ps_for PassesOwn.never rfl (pi_range1 rfl (b_range c X0 G) (pa_cons (pv 8) (pa_nil))) (pg_name (i := 10) sc_law.nd rfl (by first | exact Or.inl rfl | exact Or.inr rfl)) (pss_one (ps_if (pt_val (pv 9)) (pss_one (ps_if (pt_not (pt_val (C8.pe_c (ok__law_takes c X0 G) hr (by decide) rfl (pa_cons (pv 3) (pa_cons (pv 5) (pa_nil)))))) (pss_one (ps_ret (pe_bl))) (pss_nil))) (pss_one (ps_if (pt_not (pt_val (C8.pe_c (ok__law_arrives c X0 G) hr (by decide) rfl (pa_cons (pv 3) (pa_cons (pv 5) (pa_cons (pv 2) (pa_cons (C8.pe_c (ok__law_draw c X0 G) hr (by decide) rfl (pa_cons (pv 1) (pa_cons (pe_int) (pa_nil)))) (pa_cons (pv 6) (pa_nil))))))))) (pss_one (ps_ret (pe_bl))) (pss_nil))))))
      (pss_cons (ps_set (i := 6) sc_law.nd rfl (by first | exact Or.inl rfl | exact Or.inr rfl) (pe_op op_addI (pv 6) (C8.pe_c (ok__law_draw c X0 G) hr (by decide) rfl (pa_cons (pv 1) (pa_cons (pe_int) (pa_nil))))))
      (pss_one (ps_if (pt_not (pt_val (C8.pe_c (ok__law_agrees c X0 G) hr (by decide) rfl (pa_cons (pv 3) (pa_cons (pv 5) (pa_cons (pv 2) (pa_nil))))))) (pss_one (ps_ret (pe_bl))) (pss_nil))))))))
      (pss_one (ps_ret (pe_and (C8.pe_c (ok__law_agrees c X0 G) hr (by decide) rfl (pa_cons (pv 3) (pa_cons (pv 5) (pa_cons (pv 2) (pa_nil))))) (pe_one (C8.pe_c (ok__law_agrees c X0 G) hr (by decide) rfl (pa_cons (pv 4) (pa_cons (pe_lst (pa_nil)) (pa_cons (pv 2) (pa_nil))))))))))))))))
end
theorem facts {P : Program} {w : World} {K : PySem.W.Frag} {h : Heap} {mg : Str → Option Value} {f : Addr} (X : K.In h) (G : h.Ns mainGlobals mg) (hfa : mg ("law" : Str) = some (.ref f)) (c : He.SaysD fa fn K) :
    ∃ fd : FuncData, (∀ (s : Shared) (v : Value), BindsTo s fd ⟨[v], []⟩ [("_law_script", v)]) ∧ ∀ base : Heap, K.In base → base.Ns mainGlobals mg → FnOk P w K mg base C8.CX0 5 f fd ["_law_script"] (sp_law K) := by
  obtain ⟨fd, F⟩ := c.def_ 16 (d := d_law) rfl
  have e := hfa.symm.trans (He.glo_ok X G (c.fact 9 (f := .glo "law") rfl))
  cases e
  have b := FunD.bindsA (ps := ["_law_script"]) F fun _ _ _ _ _ _ us hl => match us, hl with | [_], _ => rfl
  exact ⟨fd, fun s v => b s [v] rfl, fun base _ _ => ok_law c X G F⟩
end SL
open PySem PySem.W PySem.Calls PyProof.Rows
theorem row : PySem.Challenge.rw_tickrings_k08_receive_queues.Holds := by
  w_on; o_law
  refine HandSHeadRun.head_any (r := OpenLaw.row PySem.Challenge.rw_tickrings_k08_receive_queues) (q := view (OpenLaw.row PySem.Challenge.rw_tickrings_k08_receive_queues).prog [12]) (H := SL.hk) (ob := SL.obS) (M := 30000) (loose := SL.loose) (d := HandSHeadRun.topDef (OpenLaw.row PySem.Challenge.rw_tickrings_k08_receive_queues).prog 12) (kwd := []) SL.obS_eq
    (by kernel_rfl) (fun s => by kernel_rfl) SL.run (by kernel_rfl) (by kernel_rfl) (by kernel_rfl) (by rfl) (by first | assumption | decide +kernel) (by decide +kernel) ⟨rfl, rfl, rfl, rfl, rfl, by decide +kernel⟩ ?hw ?hc
  case hw => w_witness2
  case hc =>
    refine L2.walk_ofE (l := PySem.Challenge.rw_tickrings_k08_receive_queues) (n := 63) (k := 5) (x := "_law_script") (CX := C8.CX0) rfl (by decide) (by kernel_rfl) ⟨rfl, by decide, by decide⟩ ?F (fun _ _ _ _ z => z)
    intro w mg fa h Y G hmg0
    obtain ⟨K, KX, c⟩ := Y
    have hmg : mg ("law" : PySem.Str) = some (.ref fa) := by
      have e : (HandSHeadRun.topDef (OpenLaw.row PySem.Challenge.rw_tickrings_k08_receive_queues).prog 12).name = ("law" : PySem.Str) := by kernel_rfl
      rw [← e]
      exact hmg0
    obtain ⟨fd, hb, hF⟩ := SL.facts (P := (PySem.Challenge.rw_tickrings_k08_receive_queues).prog) (w := w) KX G hmg c
    exact ⟨K, fd, SL.sp_law K, KX, hb, fun H a ns hl _ hS => ⟨a, ns, rfl, hl, hS, fun _ => rfl⟩, hF⟩
theorem PySem.Challenge.cw_tickrings_k08_receive_queues_holds : PySem.Challenge.rw_tickrings_k08_receive_queues.Holds := by
  exact row
end
