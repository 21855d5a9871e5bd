import PyProof.Rows.All
import Wide.All
import OpenK.AllK
import Wide.FinOn
import HandS.ForExc
import HandS.Comp
import HandS.Codes
import HandS.Defaults
import HandS.MakeKwOnly
import HandS.IsInst
import HandS.Style
import HandS.HeadHook1
import HandS.Dict
import HandS.List
import PyProof.ReprRoads
import PyProof.ReprLen
import HandS.HeadEnd
import HandS.NoneIn
import HandS.SortInts
import HandS.Deep
import HandS.ExcInit
import HandS.ExcField
import HandS.ExcIs
import HandS.ExcOwn
import HandS.WordsExc
import HandS.HeadHook2
import KE.KStateDown
import HandS.Iter
import HandS.Text
import HandS.More
import HandS.Flow
import HandS.MakeKw
import HandS.Head0
import HandS.Head1
import HandS.Head2
import PySem.Challenge.RW_tickrings_k05_rings_of_slots

section
set_option Elab.async false
set_option linter.all false
set_option maxRecDepth 100000
/-! SL0: separate heaps: atoms over parts of the abstract heap; what stands for ever (tuples) may be shared. -/
namespace SL
open PySem L2

abbrev Atom := Hp → Prop
def Sub (h H : Hp) : Prop := ∀ a o, h a = some o → H a = some o
/-- objects that never change -/
def imm : HO → Bool
  | .tup _ => true
  | .frz _ _ => true
  | _ => false
def Apart (h k : Hp) : Prop := ∀ a o u, h a = some o → k a = some u → imm o = true
/-- these parts stand, apart from one another -/
inductive Own : Hp → List Atom → Prop where
  | nil {H : Hp} : Own H []
  | cons {H : Hp} {P : Atom} {Ps : List Atom} (h k : Hp) (p : P h) (f : Own k Ps) (s1 : Sub h H) (s2 : Sub k H) (d : Apart h k) : Own H (P :: Ps)
theorem Own.out {H : Hp} {P : Atom} {Ps : List Atom} (x : Own H (P :: Ps)) : ∃ h k, P h ∧ Own k Ps ∧ Sub h H ∧ Sub k H ∧ Apart h k := by
  cases x with
  | cons h k p f s1 s2 d => exact ⟨h, k, p, f, s1, s2, d⟩
theorem Own.mk {H : Hp} {P : Atom} {Ps : List Atom} (x : ∃ h k, P h ∧ Own k Ps ∧ Sub h H ∧ Sub k H ∧ Apart h k) : Own H (P :: Ps) := by
  obtain ⟨h, k, p, f, s1, s2, d⟩ := x
  exact .cons h k p f s1 s2 d

theorem Sub.refl (h : Hp) : Sub h h := fun _ _ e => e
theorem Sub.trans {h k H : Hp} (a : Sub h k) (b : Sub k H) : Sub h H := fun x o e => b x o (a x o e)
theorem Sub.upd {h H : Hp} {p : Addr} {o : HO} (s : Sub h H) (n : h p = none) : Sub h (upd H p o) := fun a u e => by
  have ne : a ≠ p := by
    intro q
    rw [q, n] at e
    cases e
  rw [upd_ne ne]
  exact s a u e
theorem Sub.none {h H : Hp} {p : Addr} (s : Sub h H) (n : H p = none) : h p = none := by
  cases e : h p with
  | none => rfl
  | some o =>
    rw [s p o e] at n
    cases n

theorem Own.up {cs : List Atom} {H H' : Hp} (x : Own H cs) (s : Sub H H') : Own H' cs := by
  cases x with
  | nil => exact .nil
  | cons h k p f s1 s2 d => exact .cons h k p f (s1.trans s) (s2.trans s) d

theorem sub_non {H : Hp} : Sub (fun _ => none) H := fun _ _ e => nomatch e
theorem apart_non {H : Hp} : Apart (fun _ => none) H := fun _ _ _ e _ => nomatch e
/-- both parts in one -/
def un (h k : Hp) : Hp := fun a => match h a with
  | some o => some o
  | none => k a
theorem un_l {h k : Hp} : Sub h (un h k) := fun a o e => by
  unfold un
  rw [e]
theorem un_r {h k H : Hp} (s1 : Sub h H) (s2 : Sub k H) : Sub k (un h k) := fun a o e => by
  unfold un
  cases q : h a with
  | none => exact e
  | some u =>
    have e1 := s1 a u q
    rw [s2 a o e] at e1
    exact e1.symm
theorem un_to {h k H : Hp} (s1 : Sub h H) (s2 : Sub k H) : Sub (un h k) H := fun a o e => by
  unfold un at e
  cases q : h a with
  | none =>
    rw [q] at e
    exact s2 a o e
  | some u =>
    rw [q] at e
    cases e
    exact s1 a _ q
theorem Apart.symm {h k H : Hp} (s1 : Sub h H) (s2 : Sub k H) (d : Apart h k) : Apart k h := fun a o u e1 e2 => by
  have q := d a u o e2 e1
  have e := s1 a u e2
  rw [s2 a o e1] at e
  cases e
  exact q
theorem Apart.un_l {h k x : Hp} (a : Apart h x) (b : Apart k x) : Apart (un h k) x := fun c o u e1 e2 => by
  unfold un at e1
  cases q : h c with
  | none =>
    rw [q] at e1
    exact b c o u e1 e2
  | some v =>
    rw [q] at e1
    cases e1
    exact a c _ u q e2
theorem Apart.sub {h h' k k' : Hp} (d : Apart h k) (a : Sub h' h) (b : Sub k' k) : Apart h' k' := fun c o u e1 e2 => d c o u (a c o e1) (b c u e2)

theorem Own.swap {P Q : Atom} {F : List Atom} {H : Hp} (x : Own H (P :: Q :: F)) : Own H (Q :: P :: F) := by
  obtain ⟨h, k, p, y, s1, s2, d⟩ := x.out
  obtain ⟨h2, k2, q, f, s3, s4, d2⟩ := y.out
  refine .cons h2 (un h k2) q (.cons h k2 p f un_l (un_r s1 (s4.trans s2)) (d.sub (Sub.refl _) s4)) (s3.trans s2) (un_to s1 (s4.trans s2)) ?_
  refine Apart.symm (H := H) (un_to s1 (s4.trans s2)) (s3.trans s2) (Apart.un_l (d.sub (Sub.refl _) s3) ?_)
  exact Apart.symm s3 s4 d2
theorem Own.cons_mono {P : Atom} {F G : List Atom} {H : Hp} (x : Own H (P :: F)) (m : ∀ K, Own K F → Own K G) : Own H (P :: G) := by
  obtain ⟨h, k, p, f, s1, s2, d⟩ := x.out
  exact .cons h k p (m k f) s1 s2 d
theorem Own.perm {F G : List Atom} (pm : F.Perm G) : ∀ {H : Hp}, Own H F → Own H G := by
  induction pm with
  | nil => exact fun x => x
  | cons a _ ih => exact fun x => x.cons_mono fun _ => ih
  | swap a b l => exact fun x => x.swap
  | trans _ _ i1 i2 => exact fun x => i2 (i1 x)
theorem Own.tail {P : Atom} {F : List Atom} {H : Hp} (x : Own H (P :: F)) : Own H F := by
  obtain ⟨h, k, p, f, s1, s2, d⟩ := x.out
  exact f.up s2
theorem Own.mono1 {P Q : Atom} {F : List Atom} {H : Hp} (x : Own H (P :: F)) (m : ∀ h, P h → Q h) : Own H (Q :: F) := by
  obtain ⟨h, k, p, f, s1, s2, d⟩ := x.out
  exact .cons h k (m h p) f s1 s2 d
/-- what is true of a part, told of the whole -/
theorem Own.at1 {P : Atom} {F : List Atom} {H : Hp} (x : Own H (P :: F)) : ∃ h, P h ∧ Sub h H := by
  obtain ⟨h, k, p, f, s1, s2, d⟩ := x.out
  exact ⟨h, p, s1⟩

/-! ### an object at its place -/
structure pt (a : Addr) (o : HO) (h : Hp) : Prop where
  e : h a = some o
theorem own_pt {a : Addr} {o : HO} {F : List Atom} {H : Hp} (x : Own H (pt a o :: F)) : H a = some o := by
  obtain ⟨h, p, s⟩ := x.at1
  exact s a o p.e
def one (a : Addr) (o : HO) : Hp := fun b => if b = a then some o else none
theorem one_at {a : Addr} {o : HO} : one a o a = some o := if_pos rfl
theorem one_is {a b : Addr} {o u : HO} (e : one a o b = some u) : b = a ∧ u = o := by
  unfold one at e
  by_cases q : b = a
  · rw [if_pos q] at e
    exact ⟨q, (Option.some.inj e).symm⟩
  · rw [if_neg q] at e
    cases e
theorem own_set {a : Addr} {o u : HO} {F : List Atom} {H : Hp} (x : Own H (pt a o :: F)) (m : imm o = false) : Own (upd H a u) (pt a u :: F) := by
  obtain ⟨h, k, p, f, s1, s2, d⟩ := x.out
  have p' : h a = some o := p.e
  have kn : k a = none := by
    cases e : k a with
    | none => rfl
    | some v =>
      have q := d a o v p' e
      rw [m] at q
      cases q
  refine .cons (one a u) k ⟨one_at⟩ f (fun b v e => ?_) (s2.upd kn) (fun b v w e1 e2 => ?_)
  · obtain ⟨rfl, rfl⟩ := one_is e
    exact upd_same
  · obtain ⟨rfl, rfl⟩ := one_is e1
    rw [kn] at e2
    cases e2
theorem own_new {a : Addr} {u : HO} {F : List Atom} {H : Hp} (x : Own H F) (n : H a = none) : Own (upd H a u) (pt a u :: F) := by
  refine .cons (one a u) H ⟨one_at⟩ x (fun b v e => ?_) ((Sub.refl H).upd n) (fun b v w e1 e2 => ?_)
  · obtain ⟨rfl, rfl⟩ := one_is e
    exact upd_same
  · obtain ⟨rfl, rfl⟩ := one_is e1
    rw [n] at e2
    cases e2
theorem own_fresh {a : Addr} {u : HO} {F : List Atom} {H : Hp} (x : Own H F) (n : H a = none) : Own (upd H a u) F := x.up ((Sub.refl H).upd n)
theorem own_ne {a b : Addr} {o u : HO} {F : List Atom} {H : Hp} (x : Own H (pt a o :: pt b u :: F)) (m : imm o = false) : a ≠ b := by
  obtain ⟨h, k, p, y, s1, s2, d⟩ := x.out
  obtain ⟨h2, k2, q, f, s3, s4, d2⟩ := y.out
  intro e
  subst e
  have z := d a o u p.e (s3 a u q.e)
  rw [m] at z
  cases z
/-- an instance: its class, its attributes -/
structure ob (p C : Addr) (fs : List (Str × V)) (h : Hp) : Prop where
  e : ∃ dx, h p = some (.ins C dx fs)
theorem own_ob {p C : Addr} {fs : List (Str × V)} {F : List Atom} {H : Hp} (x : Own H (ob p C fs :: F)) : ∃ dx, H p = some (.ins C dx fs) := by
  obtain ⟨h, ⟨⟨dx, q⟩⟩, s⟩ := x.at1
  exact ⟨dx, s p _ q⟩
theorem own_ob_set {p C dx : Addr} {fs gs : List (Str × V)} {F : List Atom} {H : Hp} (x : Own H (ob p C fs :: F)) : Own (upd H p (.ins C dx gs)) (ob p C gs :: F) := by
  obtain ⟨h, k, ⟨⟨dy, p1⟩⟩, f, s1, s2, d⟩ := x.out
  have y : Own H (pt p (.ins C dy fs) :: F) := .cons h k ⟨p1⟩ f s1 s2 d
  exact (own_set (u := .ins C dx gs) y rfl).mono1 fun _ q => ⟨⟨dx, q.e⟩⟩
theorem own_made {x dx C : Addr} {F : List Atom} {H : Hp} (y : Own H F) (nx : H x = none) (nd : H dx = none) (ne : dx ≠ x) : Own (upd (upd H dx (.own x)) x (.ins C dx [])) (ob x C [] :: F) :=
  (own_new (u := .ins C dx []) (own_fresh (u := .own x) y nd) (by rw [upd_ne ne.symm]; exact nx)).mono1 fun _ q => ⟨⟨dx, q.e⟩⟩

/-! ### pure facts, choices, nested parts -/
structure pu (p : Prop) (h : Hp) : Prop where
  e : p
theorem own_pu {p : Prop} {F : List Atom} {H : Hp} (x : Own H (pu p :: F)) : p ∧ Own H F := by
  obtain ⟨h, q, s⟩ := x.at1
  exact ⟨q.e, x.tail⟩
theorem own_put {p : Prop} {F : List Atom} {H : Hp} (q : p) (x : Own H F) : Own H (pu p :: F) := .cons (fun _ => none) H ⟨q⟩ x sub_non (Sub.refl H) apart_non
theorem own_ex {α : Type} {P : α → Atom} {F : List Atom} {H : Hp} (x : Own H ((fun h => ∃ y, P y h) :: F)) : ∃ y, Own H (P y :: F) := by
  obtain ⟨h, k, ⟨y, p⟩, f, s1, s2, d⟩ := x.out
  exact ⟨y, .cons h k p f s1 s2 d⟩
theorem own_ext {α : Type} {P : α → Atom} {F : List Atom} {H : Hp} (y : α) (x : Own H (P y :: F)) : Own H ((fun h => ∃ y, P y h) :: F) := x.mono1 fun _ p => ⟨y, p⟩
theorem Own.app : ∀ {cs : List Atom} {F : List Atom} {h k H : Hp}, Own h cs → Own k F → Sub h H → Sub k H → Apart h k → Own H (cs ++ F)
  | [], F, h, k, H, _, f, _, s2, _ => f.up s2
  | P :: cs, F, h, k, H, y, f, s1, s2, d => by
    obtain ⟨h1, k1, p, c, s3, s4, d1⟩ := y.out
    refine .cons h1 (un k1 k) p ?_ (s3.trans s1) (un_to (s4.trans s1) s2) ?_
    · exact Own.app c f un_l (un_r (s4.trans s1) s2) (d.sub s4 (Sub.refl _))
    · refine Apart.symm (H := H) (un_to (s4.trans s1) s2) (s3.trans s1) (Apart.un_l ?_ ?_)
      · exact Apart.symm s3 s4 d1
      · exact Apart.symm s1 s2 d |>.sub (Sub.refl _) s3
/-- several parts as one -/
structure al (cs : List Atom) (h : Hp) : Prop where
  e : Own h cs
theorem own_in {cs F : List Atom} {H : Hp} (x : Own H (al cs :: F)) : Own H (cs ++ F) := by
  obtain ⟨h, k, p, f, s1, s2, d⟩ := x.out
  exact Own.app p.e f s1 s2 d
theorem own_out : ∀ {cs F : List Atom} {H : Hp}, Own H (cs ++ F) → Own H (al cs :: F)
  | [], F, H, x => .cons (fun _ => none) H ⟨.nil⟩ x sub_non (Sub.refl H) apart_non
  | P :: cs, F, H, y => by
    obtain ⟨h, k, p, f, s1, s2, d⟩ := Own.out (P := P) (Ps := cs ++ F) y
    obtain ⟨h2, k2, c, g, s3, s4, d2⟩ := (own_out (cs := cs) f).out
    refine .cons (un h h2) k2 ⟨.cons h h2 p c.e un_l (un_r s1 (s3.trans s2)) (d.sub (Sub.refl _) s3)⟩ g (un_to s1 (s3.trans s2)) (s4.trans s2) ?_
    exact Apart.un_l (d.sub (Sub.refl _) s4) d2

/-! ### what stands for ever -/
def Pst (φ : Atom) : Prop := ∀ h H : Hp, (∀ a o, imm o = true → h a = some o → H a = some o) → φ h → φ H
def immOf (H : Hp) : Hp := fun a => match H a with
  | some o => if imm o = true then some o else none
  | none => none
theorem immOf_is {H : Hp} {a : Addr} {o : HO} (e : immOf H a = some o) : H a = some o ∧ imm o = true := by
  unfold immOf at e
  cases q : H a with
  | none =>
    rw [q] at e
    cases e
  | some u =>
    rw [q] at e
    by_cases i : imm u = true
    · have e2 : (if imm u = true then some u else none) = some o := e
      rw [if_pos i] at e2
      cases e2
      exact ⟨rfl, i⟩
    · have e2 : (if imm u = true then some u else none) = some o := e
      rw [if_neg i] at e2
      cases e2
theorem immOf_at {H : Hp} {a : Addr} {o : HO} (i : imm o = true) (e : H a = some o) : immOf H a = some o := by
  unfold immOf
  rw [e]
  exact if_pos i
theorem own_per {φ : Atom} {F : List Atom} {H : Hp} (x : Own H (φ :: F)) (p : Pst φ) : φ H := by
  obtain ⟨h, q, s⟩ := x.at1
  exact p h H (fun a o _ e => s a o e) q
theorem per_own {φ : Atom} {F : List Atom} {H : Hp} (q : φ H) (p : Pst φ) (x : Own H F) : Own H (φ :: F) :=
  .cons (immOf H) H (p H _ (fun a o i e => immOf_at i e) q) x (fun a o e => (immOf_is e).1) (Sub.refl H) (fun a o u e _ => (immOf_is e).2)
theorem pst_tup {a : Addr} {xs : List V} : Pst (pt a (.tup xs)) := fun h H m e => ⟨m a _ rfl e.e⟩
theorem pst_and {φ ψ : Atom} (a : Pst φ) (b : Pst ψ) : Pst (fun h => φ h ∧ ψ h) := fun h H m e => ⟨a h H m e.1, b h H m e.2⟩
theorem pst_or {φ ψ : Atom} (a : Pst φ) (b : Pst ψ) : Pst (fun h => φ h ∨ ψ h) := fun h H m e => e.elim (fun e => .inl (a h H m e)) fun e => .inr (b h H m e)
theorem pst_ex {α : Type} {φ : α → Atom} (a : ∀ x, Pst (φ x)) : Pst (fun h => ∃ x, φ x h) := fun h H m ⟨x, e⟩ => ⟨x, a x h H m e⟩
theorem pst_all {α : Type} {φ : α → Atom} (a : ∀ x, Pst (φ x)) : Pst (fun h => ∀ x, φ x h) := fun h H m e x => a x h H m (e x)
theorem pst_imp {p : Prop} {φ : Atom} (a : Pst φ) : Pst (fun h => p → φ h) := fun h H m e q => a h H m (e q)
theorem pst_pu {p : Prop} : Pst (fun _ => p) := fun _ _ _ e => e
theorem own_tup {a : Addr} {xs : List V} {F : List Atom} {H : Hp} (x : Own H F) (n : H a = none) : Own (upd H a (.tup xs)) (pt a (.tup xs) :: F) := own_new x n

/-! ### bringing a part to the front -/
section
variable {a b c d e f g i j k l m n o p q r s t u v w x y z : Atom} {F : List Atom} {H : Hp}
theorem own_p1 (X : Own H (a :: b :: F)) : Own H (b :: a :: F) := X.swap
theorem own_p2 (X : Own H (a :: b :: c :: F)) : Own H (c :: a :: b :: F) := X.perm (List.perm_middle (l₁ := [a, b]))
theorem own_p3 (X : Own H (a :: b :: c :: d :: F)) : Own H (d :: a :: b :: c :: F) := X.perm (List.perm_middle (l₁ := [a, b, c]))
theorem own_p4 (X : Own H (a :: b :: c :: d :: e :: F)) : Own H (e :: a :: b :: c :: d :: F) := X.perm (List.perm_middle (l₁ := [a, b, c, d]))
theorem own_p5 (X : Own H (a :: b :: c :: d :: e :: f :: F)) : Own H (f :: a :: b :: c :: d :: e :: F) := X.perm (List.perm_middle (l₁ := [a, b, c, d, e]))
theorem own_p6 (X : Own H (a :: b :: c :: d :: e :: f :: g :: F)) : Own H (g :: a :: b :: c :: d :: e :: f :: F) := X.perm (List.perm_middle (l₁ := [a, b, c, d, e, f]))
theorem own_p7 (X : Own H (a :: b :: c :: d :: e :: f :: g :: i :: F)) : Own H (i :: a :: b :: c :: d :: e :: f :: g :: F) := X.perm (List.perm_middle (l₁ := [a, b, c, d, e, f, g]))
theorem own_p8 (X : Own H (a :: b :: c :: d :: e :: f :: g :: i :: j :: F)) : Own H (j :: a :: b :: c :: d :: e :: f :: g :: i :: F) := X.perm (List.perm_middle (l₁ := [a, b, c, d, e, f, g, i]))
theorem own_p9 (X : Own H (a :: b :: c :: d :: e :: f :: g :: i :: j :: k :: F)) : Own H (k :: a :: b :: c :: d :: e :: f :: g :: i :: j :: F) := X.perm (List.perm_middle (l₁ := [a, b, c, d, e, f, g, i, j]))
theorem own_p10 (X : Own H (a :: b :: c :: d :: e :: f :: g :: i :: j :: k :: l :: F)) : Own H (l :: a :: b :: c :: d :: e :: f :: g :: i :: j :: k :: F) := X.perm (List.perm_middle (l₁ := [a, b, c, d, e, f, g, i, j, k]))
theorem own_p11 (X : Own H (a :: b :: c :: d :: e :: f :: g :: i :: j :: k :: l :: m :: F)) : Own H (m :: a :: b :: c :: d :: e :: f :: g :: i :: j :: k :: l :: F) := X.perm (List.perm_middle (l₁ := [a, b, c, d, e, f, g, i, j, k, l]))
theorem own_p12 (X : Own H (a :: b :: c :: d :: e :: f :: g :: i :: j :: k :: l :: m :: n :: F)) : Own H (n :: a :: b :: c :: d :: e :: f :: g :: i :: j :: k :: l :: m :: F) := X.perm (List.perm_middle (l₁ := [a, b, c, d, e, f, g, i, j, k, l, m]))
end
end SL
end

section
set_option Elab.async false
set_option linter.all false
set_option maxRecDepth 100000
/-! SL1: readings with named rests; a step for each; loops by atoms. -/
namespace SL
open PySem L2

/-! ### the rules' values by names -/
def rAddI : R2 := rI0 fun i j => .int (i + j)
def rSubI : R2 := rI0 fun i j => .int (i - j)
def rMulI : R2 := rI CMul fun i j => .int (i * j)
def rDivI : R2 := rI CDiv fun i j => .int (i / j)
def rModI : R2 := rI (fun _ j => 0 < j) fun i j => .int (i % j)
def rLtI : R2 := rI0 fun i j => .bl (decide (i < j))
def rLeI : R2 := rI0 fun i j => .bl (decide (i ≤ j))
def rGtI : R2 := rI0 fun i j => .bl (decide (j < i))
def rGeI : R2 := rI0 fun i j => .bl (decide (j ≤ i))
def rIsN : R2 := fun x y H Q => y = .non ∧ Q (.bl (decide (x = .non))) H
def rNotN : R2 := fun x y H Q => y = .non ∧ Q (.bl (!decide (x = .non))) H
def rIsBl : R2 := fun x y H Q => ∃ a b : Bool, x = .bl a ∧ y = .bl b ∧ Q (.bl (decide (a = b))) H
def rAddT : R2 := fun x y H Q => ∃ i j, x = .str i ∧ y = .str j ∧ i.length + j.length ≤ sizeLine ∧ Q (.str (i ++ j)) H
def rLen (K : PySem.W.Frag) : List V → Hp → VK → Prop := fun xs H Q => ∃ p ys, xs = [.ref p] ∧ (SqL K H p ys ∨ SqT K H p ys) ∧ Q (.int ys.length) H
def rAbs : List V → Hp → VK → Prop := fun xs H Q => ∃ i, xs = [.int i] ∧ Q (.int (if i < 0 then -i else i)) H
def rInt : List V → Hp → VK → Prop := fun xs H Q => (∃ i, xs = [.int i] ∧ Q (.int i) H) ∨ ∃ k, xs = [.bl k] ∧ Q (.int (if k then 1 else 0)) H
def rMin2 : List V → Hp → VK → Prop := fun xs H Q => ∃ i j, xs = [.int i, .int j] ∧ Q (.int (if j < i then j else i)) H
def rMax2 : List V → Hp → VK → Prop := fun xs H Q => ∃ i j, xs = [.int i, .int j] ∧ Q (.int (if j > i then j else i)) H
def rList (K : PySem.W.Frag) : List V → Hp → VK → Prop := fun xs H Q => ∃ p ys, xs = [.ref p] ∧ (SqL K H p ys ∨ SqT K H p ys) ∧ ∀ l, H l = none → Q (.ref l) (upd H l (.lst ys))
section
variable {X : Cx}
theorem op_addI : OpR X (binaryOp .Add) rAddI := op_add
theorem op_subI : OpR X (binaryOp .Sub) rSubI := op_sub
theorem op_mulI : OpR X (binaryOp .Mult) rMulI := op_mul
theorem op_divI : OpR X (binaryOp .FloorDiv) rDivI := op_fdiv
theorem op_modI : OpR X (binaryOp .Mod) rModI := op_mod
theorem op_ltI : OpR X (compareOp .Lt) rLtI := op_lt
theorem op_leI : OpR X (compareOp .LtE) rLeI := op_le
theorem op_gtI : OpR X (compareOp .Gt) rGtI := op_gt
theorem op_geI : OpR X (compareOp .GtE) rGeI := op_ge
theorem op_isNI : OpR X (compareOp .Is) rIsN := op_isN
theorem op_notNI : OpR X (compareOp .IsNot) rNotN := op_notN
theorem op_isBlI : OpR X (compareOp .Is) rIsBl := op_isBl
theorem op_addT : OpR X (binaryOp .Add) rAddT := op_add_str
theorem call_lenI : CallR X (.builtin "len") (rLen X.K) := call_len_seq
theorem call_absI : CallR X (.builtin "abs") rAbs := call_abs
theorem call_intI : CallR X (.type "int") rInt := call_int1
theorem call_listI : CallR X (.type "list") (rList X.K) := call_list_of
end

/-! ### rests by names -/
def kFld (K : PySem.W.Frag) (f : Str) (Q : VK) : VK := fun x H1 => ∃ a C dx fs v, x = .ref a ∧ H1 a = some (.ins C dx fs) ∧ Cls K C ∧ NoAttr K C f ∧ fs.lookup f = some v ∧ Q v H1
def kOp2 (r : R2) (x : V) (Q : VK) : VK := fun y H2 => r x y H2 Q
def kOp1 (r : R2) (tb : TE) (σ : St) (Q : VK) : VK := fun x H1 => tb σ H1 (kOp2 r x Q)
def kCons2 (x : V) (Q : List V → Hp → Prop) : List V → Hp → Prop := fun xs H2 => Q (x :: xs) H2
def kCons1 (tr : TA) (σ : St) (Q : List V → Hp → Prop) : VK := fun x H1 => tr σ H1 (kCons2 x Q)
def kCall (sp : Sp) (dvs : List V) (E : XK) (Q : VK) : List V → Hp → Prop := fun vs H1 => sp (vs ++ dvs) H1 Q E
def kMethA (sp : Sp) (x : V) (dvs : List V) (E : XK) (Q : VK) : List V → Hp → Prop := fun vs H2 => sp (x :: (vs ++ dvs)) H2 Q E
def kMeth (C : Addr) (m : Str) (sp : Sp) (dvs : List V) (E : XK) (t : TA) (σ : St) (Q : VK) : VK := fun x H1 => ∃ a dx fs, x = .ref a ∧ H1 a = some (.ins C dx fs) ∧ fs.lookup m = none ∧ t σ H1 (kMethA sp x dvs E Q)
def kMake (C : Addr) (sp : Sp) (dvs : List V) (E : XK) (Q : VK) : List V → Hp → Prop := fun vs H1 => ∀ x dx, H1 x = none → H1 dx = none → dx ≠ x → sp (.ref x :: (vs ++ dvs)) (upd (upd H1 dx (.own x)) x (.ins C dx [])) (fun v H2 => v = .non ∧ Q (.ref x) H2) E
def kMade (x : Addr) (Q : VK) : VK := fun v H2 => v = .non ∧ Q (.ref x) H2
def kCB (r : List V → Hp → VK → Prop) (Q : VK) : List V → Hp → Prop := fun vs H1 => r vs H1 Q
def kBM2 (r : V → List V → Hp → VK → Prop) (x : V) (Q : VK) : List V → Hp → Prop := fun xs H2 => r x xs H2 Q
def kBM (K : PySem.W.Frag) (T : String) (r : V → List V → Hp → VK → Prop) (t : TA) (σ : St) (Q : VK) : VK := fun x H1 => tyV K T x H1 ∧ t σ H1 (kBM2 r x Q)
def kBM0 (K : PySem.W.Frag) (T : String) (r : V → List V → Hp → VK → Prop) (Q : VK) : VK := fun x H1 => tyV K T x H1 ∧ r x [] H1 Q
def kTup (Q : VK) : List V → Hp → Prop := fun xs H1 => xs.length ≤ sizeLine ∧ ∀ p, H1 p = none → Q (.ref p) (upd H1 p (.tup xs))
def kLst (Q : VK) : List V → Hp → Prop := fun xs H1 => xs.length ≤ sizeLine ∧ ∀ p, H1 p = none → Q (.ref p) (upd H1 p (.lst xs))
def kAndV (tb : TE) (σ : St) (Q : VK) : VK := fun x H1 => ∃ c, x = .bl c ∧ if c = true then tb σ H1 Q else Q (.bl false) H1
def kOrV (tb : TE) (σ : St) (Q : VK) : VK := fun x H1 => ∃ c, x = .bl c ∧ if c = true then Q (.bl true) H1 else tb σ H1 Q
def kNotV (Q : VK) : VK := fun x H1 => ∃ c, x = .bl c ∧ Q (.bl (!c)) H1
def kTest (Q : Bool → Hp → Prop) : VK := fun x H' => ∃ k, x = .bl k ∧ Q k H'
def kAnd (u : TT) (σ : St) (Q : Bool → Hp → Prop) : Bool → Hp → Prop := fun c H1 => if c = true then u σ H1 Q else Q false H1
def kOr (u : TT) (σ : St) (Q : Bool → Hp → Prop) : Bool → Hp → Prop := fun c H1 => if c = true then Q true H1 else u σ H1 Q
def kNot (Q : Bool → Hp → Prop) : Bool → Hp → Prop := fun c H1 => Q (!c) H1
def kIf (ta tb : TE) (σ : St) (Q : VK) : Bool → Hp → Prop := fun c H1 => if c = true then ta σ H1 Q else tb σ H1 Q
def kIfS (t u : TS) (D : Ends) (σ : St) : Bool → Hp → Prop := fun b H1 => if b = true then t D σ H1 else u D σ H1
def kSet (i : Nat) (σ : St) (P : St → Hp → Prop) : VK := fun x H1 => P (σ.set i (some x)) H1
def kDrop (σ : St) (P : St → Hp → Prop) : VK := fun _ H1 => P σ H1
def kSt2 (K : PySem.W.Frag) (f : Str) (y : V) (σ : St) (P : St → Hp → Prop) : VK := fun x H2 => ∃ a C dx fs, x = .ref a ∧ H2 a = some (.ins C dx fs) ∧ Cls K C ∧ NoAttr K C f ∧ fs.length < 1000 ∧ P σ (upd H2 a (.ins C dx (putF f y fs)))
def kSt1 (K : PySem.W.Frag) (ta : TE) (f : Str) (σ : St) (P : St → Hp → Prop) : VK := fun y H1 => ta σ H1 (kSt2 K f y σ P)
def kAu3 (K : PySem.W.Frag) (a C : Addr) (f : Str) (σ : St) (P : St → Hp → Prop) : VK := fun z H3 => ∃ dx' fs', H3 a = some (.ins C dx' fs') ∧ fs'.length < 1000 ∧ P σ (upd H3 a (.ins C dx' (putF f z fs')))
def kAu2 (K : PySem.W.Frag) (a C : Addr) (rd : V → V → Hp → VK → Prop) (v : V) (f : Str) (σ : St) (P : St → Hp → Prop) : VK := fun y H2 => rd v y H2 (kAu3 K a C f σ P)
def kAu1 (K : PySem.W.Frag) (tv : TE) (rd : V → V → Hp → VK → Prop) (f : Str) (σ : St) (P : St → Hp → Prop) : VK := fun x H1 => ∃ a C dx fs v, x = .ref a ∧ H1 a = some (.ins C dx fs) ∧ Cls K C ∧ NoAttr K C f ∧ fs.lookup f = some v ∧ tv σ H1 (kAu2 K a C rd v f σ P)
def kLu2 (i : Nat) (x : V) (ti : V → V → Hp → VK → Prop) (σ : St) (P : St → Hp → Prop) : VK := fun y H1 => ti x y H1 (kSet i σ P)
def kSu3 (i v : V) (t : TSet) (o : V) (σ : St) (P : St → Hp → Prop) : Hp → Prop := fun H2 => t o i v H2 fun H3 => P σ H3
def kSu2 (v : V) (t : TSet) (o : V) (σ : St) (P : St → Hp → Prop) : VK := fun i H2 => t o i v H2 fun H3 => P σ H3
def kSu1 (v : V) (ti : TE) (t : TSet) (σ : St) (P : St → Hp → Prop) : VK := fun o H1 => ti σ H1 (kSu2 v t o σ P)
def kSu0 (to ti : TE) (t : TSet) (σ : St) (P : St → Hp → Prop) : VK := fun v H1 => to σ H1 (kSu1 v ti t σ P)
def kFor (g : TG) (tb : TS) (D : Ends) (σ : St) : It → Hp → Prop := fun J H1 => ∃ W : Nat → Nat → St → Hp → Prop, (∃ m, W 0 m σ H1) ∧ ∀ i m σ H, W i m σ H →
  (J.stop i H ∧ D.nx σ H) ∨ (J.go i H ∧ ∃ N : St → Hp → Prop, (∀ σ' H', N σ' H' → ∃ m', m' < m ∧ W (i + 1) m' σ' H') ∧ ∀ x H', J.yld i H x H' → g x σ H' fun σ2 H2 => tb { D with nx := N, ct := N, bk := D.nx } σ2 H2)
def kLc (g : TG) (tt : TT) (te : TE) (vs : List Nat) (σ : St) (Q : VK) : It → Hp → Prop := fun J H1 => ∀ D, H1 D = none → ∃ W : Nat → Nat → Hp → Prop, (∃ m, W 0 m (upd H1 D (.lst []))) ∧ ∀ i m H, W i m H →
  (J.stop i H ∧ Q (.ref D) H) ∨ (J.go i H ∧ ∃ Nx : Hp → Prop, (∀ H', Nx H' → ∃ m', m' < m ∧ W (i + 1) m' H') ∧ ∀ x H', J.yld i H x H' → g x (wipe σ vs) H' fun σ2 H2 => wipe σ2 vs = wipe σ vs ∧ tt σ2 H2 fun b H3 =>
    if b = true then te σ2 H3 fun y H4 => ∃ acc, H4 D = some (.lst acc) ∧ acc.length < sizeLine ∧ Nx (upd H4 D (.lst (acc ++ [y]))) else Nx H3)
def kListI (K : PySem.W.Frag) (R : It → Hp → Prop) : VK := fun x H1 => ∃ a, x = .ref a ∧ (∃ xs, SqL K H1 a xs) ∧ R (Itl K a) H1
def kTupI (K : PySem.W.Frag) (R : It → Hp → Prop) : VK := fun x H1 => ∃ a, x = .ref a ∧ (∃ xs, SqT K H1 a xs) ∧ R (Itt K a) H1
def kRng1 (R : It → Hp → Prop) : List V → Hp → Prop := fun vs H1 => ∃ j : Int, vs = [.int j] ∧ -(2 ^ 62) ≤ j ∧ j < 2 ^ 62 ∧ R (Itr 0 j.toNat) H1
def kRng2 (R : It → Hp → Prop) : List V → Hp → Prop := fun vs H1 => ∃ i j : Int, vs = [.int i, .int j] ∧ (-(2 ^ 62) ≤ i ∧ i < 2 ^ 62 ∧ -(2 ^ 62) ≤ j ∧ j < 2 ^ 62) ∧ R (Itr i (j - i).toNat) H1

/-! ### one step each -/
section
variable {K : PySem.W.Frag} {σ : St} {H : Hp} {Q : VK} {ta tb te tv to ti : TE} {t u : TT} {tt uu ts : TS} {tr tk : TA} {P : St → Hp → Prop} {D : Ends} {v x y : V} {f m : Str} {p C a l : Addr} {F : List Atom} {r : R2} {i j n : Int} {vs xs ys : List V}
theorem g_var {i : Nat} (h : σ[i]? = some (some v)) (k : Q v H) : tVar i σ H Q := ⟨v, h, k⟩
theorem g_c (k : Q v H) : tC v σ H Q := k
theorem g_fld (k : ta σ H (kFld K f Q)) : tFld K ta f σ H Q := k
theorem g_op (k : ta σ H (kOp1 r tb σ Q)) : tOp r ta tb σ H Q := k
theorem g_op1 (k : tb σ H (kOp2 r x Q)) : kOp1 r tb σ Q x H := k
theorem g_op2 (k : r x y H Q) : kOp2 r x Q y H := k
theorem g_nil {R : List V → Hp → Prop} (k : R [] H) : tNil σ H R := k
theorem g_cons {R : List V → Hp → Prop} (k : ta σ H (kCons1 tr σ R)) : tCons ta tr σ H R := k
theorem g_cons1 {R : List V → Hp → Prop} (k : tr σ H (kCons2 x R)) : kCons1 tr σ R x H := k
theorem g_cons2 {R : List V → Hp → Prop} (k : R (x :: xs) H) : kCons2 x R xs H := k
theorem g_call {sp : Sp} {dvs : List V} {E : XK} (k : tr σ H (kCall sp dvs E Q)) : tCall sp dvs E tr σ H Q := k
theorem g_callA {sp : Sp} {E : XK} (k : sp vs H Q E) : kCall sp [] E Q vs H := by
  show sp (vs ++ []) H Q E
  rw [List.append_nil]
  exact k
theorem g_meth {sp : Sp} {dvs : List V} {E : XK} (k : ta σ H (kMeth C m sp dvs E tr σ Q)) : tMeth C m sp dvs E ta tr σ H Q := k
theorem g_meth1 {sp : Sp} {dvs : List V} {E : XK} (h : ∃ dx fs, H p = some (.ins C dx fs) ∧ fs.lookup m = none) (k : tr σ H (kMethA sp (.ref p) dvs E Q)) : kMeth C m sp dvs E tr σ Q (.ref p) H := by
  obtain ⟨dx, fs, h1, h2⟩ := h
  exact ⟨p, dx, fs, rfl, h1, h2, k⟩
theorem g_methA {sp : Sp} {E : XK} (k : sp (x :: vs) H Q E) : kMethA sp x [] E Q vs H := by
  show sp (x :: (vs ++ [])) H Q E
  rw [List.append_nil]
  exact k
theorem g_make {sp : Sp} {dvs : List V} {E : XK} (k : tr σ H (kMake C sp dvs E Q)) : tMake C sp dvs E tr σ H Q := k
theorem g_makeA {sp : Sp} {E : XK} (x : Own H F) (k : ∀ p H1, Own H1 (ob p C [] :: F) → sp (.ref p :: vs) H1 (kMade p Q) E) : kMake C sp [] E Q vs H := by
  intro p dx np nd ne
  have q := k p _ (own_made (C := C) x np nd ne)
  show sp (.ref p :: (vs ++ [])) _ _ E
  rw [List.append_nil]
  exact q
theorem g_made (k : Q (.ref p) H) : kMade p Q .non H := ⟨rfl, k⟩
theorem g_cb {rr : List V → Hp → VK → Prop} (k : tr σ H (kCB rr Q)) : tCB rr tr σ H Q := k
theorem g_cbA {rr : List V → Hp → VK → Prop} (k : rr vs H Q) : kCB rr Q vs H := k
theorem g_bm {T : String} {rr : V → List V → Hp → VK → Prop} (k : to σ H (kBM K T rr tr σ Q)) : tBM K T rr to tr σ H Q := k
theorem g_bm0 {T : String} {rr : V → List V → Hp → VK → Prop} (k : to σ H (kBM0 K T rr Q)) : tBM0 K T rr to σ H Q := k
theorem g_bmL {rr : V → List V → Hp → VK → Prop} (h : H a = some (.lst xs)) (k : tr σ H (kBM2 rr (.ref a) Q)) : kBM K "list" rr tr σ Q (.ref a) H := ⟨.inl ⟨rfl, _, SqL.of h⟩, k⟩
theorem g_bm0L {rr : V → List V → Hp → VK → Prop} (h : H a = some (.lst xs)) (k : rr (.ref a) [] H Q) : kBM0 K "list" rr Q (.ref a) H := ⟨.inl ⟨rfl, _, SqL.of h⟩, k⟩
theorem g_bm2 {rr : V → List V → Hp → VK → Prop} (k : rr x vs H Q) : kBM2 rr x Q vs H := k
theorem g_tup (k : tr σ H (kTup Q)) : tTup tr σ H Q := k
theorem g_tupA (z : Own H F) (h : vs.length ≤ 1000) (k : ∀ p H1, Own H1 (pt p (.tup vs) :: F) → Q (.ref p) H1) : kTup Q vs H := ⟨Nat.le_trans h (by decide), fun p np => k p _ (own_new z np)⟩
theorem g_lst (k : tr σ H (kLst Q)) : tLst tr σ H Q := k
theorem g_lstA (z : Own H F) (h : vs.length ≤ 1000) (k : ∀ p H1, Own H1 (pt p (.lst vs) :: F) → Q (.ref p) H1) : kLst Q vs H := ⟨Nat.le_trans h (by decide), fun p np => k p _ (own_new z np)⟩
/-! operators -/
theorem g_addI (k : Q (.int (i + j)) H) : rAddI (.int i) (.int j) H Q := ⟨i, j, rfl, rfl, k⟩
theorem g_subI (k : Q (.int (i - j)) H) : rSubI (.int i) (.int j) H Q := ⟨i, j, rfl, rfl, k⟩
theorem g_mulI (h : (-(2 ^ 62) < i ∧ i < 2 ^ 62) ∨ (-(2 ^ 62) < j ∧ j < 2 ^ 62)) (k : Q (.int (i * j)) H) : rMulI (.int i) (.int j) H Q := ⟨i, j, rfl, rfl, by unfold CMul; omega, k⟩
theorem g_divI (h : 0 < j ∧ j < 1073741824) (k : Q (.int (i / j)) H) : rDivI (.int i) (.int j) H Q := ⟨i, j, rfl, rfl, h, k⟩
theorem g_modI (h : 0 < j) (k : Q (.int (i % j)) H) : rModI (.int i) (.int j) H Q := ⟨i, j, rfl, rfl, h, k⟩
theorem g_ltI (k : Q (.bl (decide (i < j))) H) : rLtI (.int i) (.int j) H Q := ⟨i, j, rfl, rfl, k⟩
theorem g_leI (k : Q (.bl (decide (i ≤ j))) H) : rLeI (.int i) (.int j) H Q := ⟨i, j, rfl, rfl, k⟩
theorem g_gtI (k : Q (.bl (decide (j < i))) H) : rGtI (.int i) (.int j) H Q := ⟨i, j, rfl, rfl, k⟩
theorem g_geI (k : Q (.bl (decide (j ≤ i))) H) : rGeI (.int i) (.int j) H Q := ⟨i, j, rfl, rfl, k⟩
theorem g_eqI (k : Q (.bl (decide (i = j))) H) : rEq (.int i) (.int j) H Q := by
  refine ⟨rfl, ?_⟩
  have e : decide (V.int i = V.int j) = decide (i = j) := by
    by_cases q : i = j
    · rw [decide_eq_true q, decide_eq_true (congrArg V.int q)]
    · rw [decide_eq_false q, decide_eq_false (fun z => q (V.int.inj z))]
  rw [e]
  exact k
theorem g_neI (k : Q (.bl (!decide (i = j))) H) : rNe (.int i) (.int j) H Q := by
  refine ⟨rfl, ?_⟩
  have e : decide (V.int i = V.int j) = decide (i = j) := by
    by_cases q : i = j
    · rw [decide_eq_true q, decide_eq_true (congrArg V.int q)]
    · rw [decide_eq_false q, decide_eq_false (fun z => q (V.int.inj z))]
  rw [e]
  exact k
theorem g_eqB {b c : Bool} (k : Q (.bl (b == c)) H) : rEq (.bl b) (.bl c) H Q := by
  refine ⟨rfl, ?_⟩
  have e : decide (V.bl b = V.bl c) = (b == c) := by cases b <;> cases c <;> rfl
  rw [e]
  exact k
theorem g_neB {b c : Bool} (k : Q (.bl (b != c)) H) : rNe (.bl b) (.bl c) H Q := by
  refine ⟨rfl, ?_⟩
  have e : (!decide (V.bl b = V.bl c)) = (b != c) := by cases b <;> cases c <;> rfl
  rw [e]
  exact k
theorem g_eqX (h : scal x y = true) (k : Q (.bl (decide (x = y))) H) : rEq x y H Q := ⟨h, k⟩
theorem g_neX (h : scal x y = true) (k : Q (.bl (!decide (x = y))) H) : rNe x y H Q := ⟨h, k⟩
theorem g_isN (k : Q (.bl (decide (x = .non))) H) : rIsN x .non H Q := ⟨rfl, k⟩
theorem g_notN (k : Q (.bl (!decide (x = .non))) H) : rNotN x .non H Q := ⟨rfl, k⟩
theorem g_isBl {b c : Bool} (k : Q (.bl (decide (b = c))) H) : rIsBl (.bl b) (.bl c) H Q := ⟨b, c, rfl, rfl, k⟩
theorem g_addT {z w : Str} (h : z.length + w.length ≤ sizeLine) (k : Q (.str (z ++ w)) H) : rAddT (.str z) (.str w) H Q := ⟨z, w, rfl, rfl, h, k⟩
/-! attributes -/
theorem g_fld1 {fs : List (Str × V)} (z : Own H (ob p C fs :: F)) (c : Cls K C) (n : NoAttr K C f) (e : fs.lookup f = some v) (k : Q v H) : kFld K f Q (.ref p) H := by
  obtain ⟨dx, h⟩ := own_ob z
  exact ⟨p, C, dx, fs, v, rfl, h, c, n, e, k⟩
theorem g_st (k : tv σ H (kSt1 K ta f σ D.nx)) : sFld K ta tv f D σ H := k
theorem g_st1 (k : ta σ H (kSt2 K f y σ P)) : kSt1 K ta f σ P y H := k
theorem g_st2 {fs gs : List (Str × V)} (z : Own H (ob p C fs :: F)) (c : Cls K C) (n : NoAttr K C f) (s : fs.length < 1000) (e : putF f y fs = gs) (k : ∀ H1, Own H1 (ob p C gs :: F) → P σ H1) : kSt2 K f y σ P (.ref p) H := by
  obtain ⟨dx, h⟩ := own_ob z
  subst e
  exact ⟨p, C, dx, fs, rfl, h, c, n, s, k _ (own_ob_set z)⟩
theorem g_au {rd : V → V → Hp → VK → Prop} (k : ta σ H (kAu1 K tv rd f σ D.nx)) : sFldAug K ta tv rd f D σ H := k
theorem g_au1 {rd : V → V → Hp → VK → Prop} {fs : List (Str × V)} (z : Own H (ob p C fs :: F)) (c : Cls K C) (n : NoAttr K C f) (e : fs.lookup f = some v) (k : tv σ H (kAu2 K p C rd v f σ P)) : kAu1 K tv rd f σ P (.ref p) H := by
  obtain ⟨dx, h⟩ := own_ob z
  exact ⟨p, C, dx, fs, v, rfl, h, c, n, e, k⟩
theorem g_au2 {rd : V → V → Hp → VK → Prop} (k : rd v y H (kAu3 K p C f σ P)) : kAu2 K p C rd v f σ P y H := k
theorem g_rAdd (k : Q (.int (i + j)) H) : rAdd (.int i) (.int j) H Q := ⟨i, j, rfl, rfl, k⟩
theorem g_rSub (k : Q (.int (i - j)) H) : rSub (.int i) (.int j) H Q := ⟨i, j, rfl, rfl, k⟩
theorem g_au3 {fs gs : List (Str × V)} (z : Own H (ob p C fs :: F)) (s : fs.length < 1000) (e : putF f y fs = gs) (k : ∀ H1, Own H1 (ob p C gs :: F) → P σ H1) : kAu3 K p C f σ P y H := by
  obtain ⟨dx, h⟩ := own_ob z
  subst e
  exact ⟨dx, fs, h, s, k _ (own_ob_set z)⟩
/-! lists -/
theorem g_len (h : H a = some (.lst xs)) (k : Q (.int xs.length) H) : rLen K [.ref a] H Q := ⟨a, xs, rfl, .inl (SqL.of h), k⟩
theorem g_lenM {α : Type} {g : α → V} {zs : List α} (h : H a = some (.lst (zs.map g))) (k : Q (.int zs.length) H) : rLen K [.ref a] H Q := ⟨a, _, rfl, .inl (SqL.of h), by rw [List.length_map]; exact k⟩
theorem g_lenT (h : H a = some (.tup xs)) (k : Q (.int xs.length) H) : rLen K [.ref a] H Q := ⟨a, xs, rfl, .inr (SqT.of h), k⟩
theorem g_abs (k : Q (.int (if i < 0 then -i else i)) H) : rAbs [.int i] H Q := ⟨i, rfl, k⟩
theorem g_int (k : Q (.int i) H) : rInt [.int i] H Q := .inl ⟨i, rfl, k⟩
theorem g_intB {b : Bool} (k : Q (.int (if b then 1 else 0)) H) : rInt [.bl b] H Q := .inr ⟨b, rfl, k⟩
theorem g_listOf (h : H a = some (.lst xs)) (z : Own H F) (k : ∀ q H1, Own H1 (pt q (.lst xs) :: F) → Q (.ref q) H1) : rList K [.ref a] H Q := ⟨a, xs, rfl, .inl (SqL.of h), fun q nq => k q _ (own_new z nq)⟩
theorem g_append (z : Own H (pt a (.lst xs) :: F)) (s : xs.length < 10000000) (k : ∀ H1, Own H1 (pt a (.lst (xs ++ [y])) :: F) → Q .non H1) : rAppend (.ref a) [y] H Q :=
  ⟨a, xs, y, rfl, rfl, own_pt z, Nat.lt_of_lt_of_le s (by decide), k _ (own_set z rfl)⟩
theorem g_extend (z : Own H (pt a (.lst xs) :: F)) (h : H l = some (.lst ys)) (s : xs.length + ys.length ≤ 10000000) (k : ∀ H1, Own H1 (pt a (.lst (xs ++ ys)) :: F) → Q .non H1) : rExtend (.ref a) [.ref l] H Q :=
  ⟨a, l, xs, ys, rfl, rfl, own_pt z, h, Nat.le_trans s (by decide), k _ (own_set z rfl)⟩
theorem g_pop0 (z : Own H (pt a (.lst (y :: ys)) :: F)) (k : ∀ H1, Own H1 (pt a (.lst ys) :: F) → Q y H1) : rPopAt (.ref a) [.int 0] H Q :=
  ⟨a, y :: ys, 0, 0, y, rfl, rfl, own_pt z, by decide, by decide, by simp [seqIndex?], rfl, k _ (own_set z rfl)⟩
theorem g_popC (z : Own H (pt a (.lst xs) :: F)) (e : xs = y :: ys) (k : ∀ H1, Own H1 (pt a (.lst ys) :: F) → Q y H1) : rPopAt (.ref a) [.int 0] H Q := by
  subst e
  exact g_pop0 z k
theorem g_pop (z : Own H (pt a (.lst (ys ++ [y])) :: F)) (k : ∀ H1, Own H1 (pt a (.lst ys) :: F) → Q y H1) : rPop (.ref a) [] H Q :=
  ⟨a, ys ++ [y], y, rfl, rfl, own_pt z, by simp, by
    have e : (ys ++ [y]).dropLast = ys := by simp
    rw [e]
    exact k _ (own_set z rfl)⟩
theorem g_ixL {i : Int} (h : H a = some (.lst xs)) (e : atI xs i = some v) (k : Q v H) : rIxL K (.ref a) (.int i) H Q := ⟨a, xs, i, v, rfl, rfl, SqL.of h, e, k⟩
theorem g_ixT {i : Int} (h : H a = some (.tup xs)) (e : atI xs i = some v) (k : Q v H) : rIxT K (.ref a) (.int i) H Q := ⟨a, xs, i, v, rfl, rfl, SqT.of h, e, k⟩
theorem g_setL {i : Int} {j : Nat} (z : Own H (pt a (.lst xs) :: F)) (e : ixN xs.length i = some j) (k : ∀ H1, Own H1 (pt a (.lst (xs.set j y)) :: F) → P σ H1) : kSu2 y rSetL (.ref a) σ P (.int i) H :=
  ⟨a, xs, i, j, rfl, rfl, own_pt z, e, k _ (own_set z rfl)⟩
theorem g_cat {zs : List V} (h : H a = some (.lst xs)) (h2 : H l = some (.lst zs)) (z : Own H F) (s : xs.length + zs.length ≤ 10000000) (k : ∀ q H1, Own H1 (pt q (.lst (xs ++ zs)) :: F) → Q (.ref q) H1) : rCat (.ref a) (.ref l) H Q :=
  ⟨a, l, xs, zs, rfl, rfl, h, h2, Nat.le_trans s (by decide), fun q nq => k q _ (own_new z nq)⟩
theorem g_rep {i : Int} (h : H a = some (.lst xs)) (z : Own H F) (s : 0 ≤ i ∧ i ≤ 1000) (s2 : xs.length ≤ 1000) (k : ∀ q H1, Own H1 (pt q (.lst (List.replicate i.toNat xs).flatten) :: F) → Q (.ref q) H1) : rRep (.ref a) (.int i) H Q :=
  ⟨a, i, xs, rfl, rfl, h, by omega, by omega, by
    have e : xs.length * i.toNat ≤ 1000 * 1000 := Nat.mul_le_mul s2 (by omega)
    exact Nat.le_trans e (by decide), fun q nq => k q _ (own_new z nq)⟩
/-! truth -/
theorem g_andV (k : ta σ H (kAndV tb σ Q)) : tAndV ta tb σ H Q := k
theorem g_orV (k : ta σ H (kOrV tb σ Q)) : tOrV ta tb σ H Q := k
theorem g_notV (k : ta σ H (kNotV Q)) : tNotV ta σ H Q := k
theorem g_andV1 {b : Bool} (h1 : b = true → tb σ H Q) (h2 : b = false → Q (.bl false) H) : kAndV tb σ Q (.bl b) H := ⟨b, rfl, by
  cases b with
  | true => exact h1 rfl
  | false => exact h2 rfl⟩
theorem g_orV1 {b : Bool} (h1 : b = true → Q (.bl true) H) (h2 : b = false → tb σ H Q) : kOrV tb σ Q (.bl b) H := ⟨b, rfl, by
  cases b with
  | true => exact h1 rfl
  | false => exact h2 rfl⟩
theorem g_notV1 {b : Bool} (k : Q (.bl (!b)) H) : kNotV Q (.bl b) H := ⟨b, rfl, k⟩
variable {R : Bool → Hp → Prop}
theorem g_test (k : te σ H (kTest R)) : tTest te σ H R := k
theorem g_tB (k : te σ H (kTest R)) : tB te σ H R := k
theorem g_test1 {b : Bool} (k : R b H) : kTest R (.bl b) H := ⟨b, rfl, k⟩
theorem g_and (k : t σ H (kAnd u σ R)) : tAnd t u σ H R := k
theorem g_or (k : t σ H (kOr u σ R)) : tOr t u σ H R := k
theorem g_not (k : t σ H (kNot R)) : tNot t σ H R := k
theorem g_not1 {b : Bool} (k : R (!b) H) : kNot R b H := k
theorem g_and1 {b : Bool} (h1 : b = true → u σ H R) (h2 : b = false → R false H) : kAnd u σ R b H := by
  cases b with
  | true => exact h1 rfl
  | false => exact h2 rfl
theorem g_or1 {b : Bool} (h1 : b = true → R true H) (h2 : b = false → u σ H R) : kOr u σ R b H := by
  cases b with
  | true => exact h1 rfl
  | false => exact h2 rfl
theorem g_if (k : t σ H (kIf ta tb σ Q)) : tIf t ta tb σ H Q := k
theorem g_if1 {b : Bool} (h1 : b = true → ta σ H Q) (h2 : b = false → tb σ H Q) : kIf ta tb σ Q b H := by
  cases b with
  | true => exact h1 rfl
  | false => exact h2 rfl
/-! statements -/
theorem g_seq (k : tt { D with nx := uu D } σ H) : tSeq tt uu D σ H := k
theorem g_next (k : D.nx σ H) : tNext D σ H := k
theorem g_nx {a : St → Hp → Prop} {b : VK} {c d : St → Hp → Prop} (k : a σ H) : Ends.nx ⟨a, b, c, d⟩ σ H := k
theorem g_rt {a : St → Hp → Prop} {b : VK} {c d : St → Hp → Prop} (k : b v H) : Ends.rt ⟨a, b, c, d⟩ v H := k
theorem g_bk {a : St → Hp → Prop} {b : VK} {c d : St → Hp → Prop} (k : c σ H) : Ends.bk ⟨a, b, c, d⟩ σ H := k
theorem g_ct {a : St → Hp → Prop} {b : VK} {c d : St → Hp → Prop} (k : d σ H) : Ends.ct ⟨a, b, c, d⟩ σ H := k
theorem g_asg {i : Nat} (k : te σ H (kSet i σ D.nx)) : tAsg te (gName i) D σ H := k
theorem g_sub (k : te σ H (kSu0 to ti rSetL σ D.nx)) : tAsg te (gSub to ti rSetL) D σ H := k
theorem g_sub0 {s : TSet} (k : to σ H (kSu1 v ti s σ P)) : kSu0 to ti s σ P v H := k
theorem g_sub1 {s : TSet} (k : ti σ H (kSu2 v s x σ P)) : kSu1 v ti s σ P x H := k
theorem g_drop (k : te σ H (kDrop σ D.nx)) : tDrop te D σ H := k
theorem g_drop1 (k : P σ H) : kDrop σ P v H := k
theorem g_ret (k : te σ H D.rt) : tRet te D σ H := k
theorem g_retN (k : D.rt .non H) : tRetN D σ H := k
theorem g_ifS (k : t σ H (kIfS tt uu D σ)) : tIfS t tt uu D σ H := k
theorem g_ifS1 {b : Bool} (h1 : b = true → tt D σ H) (h2 : b = false → uu D σ H) : kIfS tt uu D σ b H := by
  cases b with
  | true => exact h1 rfl
  | false => exact h2 rfl
theorem g_aug {q : Nat} {rd : V → V → Hp → VK → Prop} (h : σ[q]? = some (some x)) (k : te σ H (kLu2 q x rd σ D.nx)) : tAug q te rd D σ H := ⟨x, h, k⟩
theorem g_augA {q : Nat} {g : Int → Int → Int} (k : kSet q σ P (.int (g i j)) H) : kLu2 q (.int i) (ipI g) σ P (.int j) H := ⟨i, j, rfl, rfl, k⟩
variable {s0 s1 s2 s3 s4 s5 s6 s7 s8 s9 sa sb sc sd se sf sg sh si sj : Option V} {ss : List (Option V)}
theorem g_set0 (k : P (some v :: ss) H) : kSet 0 (s0 :: ss) P v H := k
theorem g_set1 (k : P (s0 :: some v :: ss) H) : kSet 1 (s0 :: s1 :: ss) P v H := k
theorem g_set2 (k : P (s0 :: s1 :: some v :: ss) H) : kSet 2 (s0 :: s1 :: s2 :: ss) P v H := k
theorem g_set3 (k : P (s0 :: s1 :: s2 :: some v :: ss) H) : kSet 3 (s0 :: s1 :: s2 :: s3 :: ss) P v H := k
theorem g_set4 (k : P (s0 :: s1 :: s2 :: s3 :: some v :: ss) H) : kSet 4 (s0 :: s1 :: s2 :: s3 :: s4 :: ss) P v H := k
theorem g_set5 (k : P (s0 :: s1 :: s2 :: s3 :: s4 :: some v :: ss) H) : kSet 5 (s0 :: s1 :: s2 :: s3 :: s4 :: s5 :: ss) P v H := k
theorem g_set6 (k : P (s0 :: s1 :: s2 :: s3 :: s4 :: s5 :: some v :: ss) H) : kSet 6 (s0 :: s1 :: s2 :: s3 :: s4 :: s5 :: s6 :: ss) P v H := k
theorem g_set7 (k : P (s0 :: s1 :: s2 :: s3 :: s4 :: s5 :: s6 :: some v :: ss) H) : kSet 7 (s0 :: s1 :: s2 :: s3 :: s4 :: s5 :: s6 :: s7 :: ss) P v H := k
theorem g_set8 (k : P (s0 :: s1 :: s2 :: s3 :: s4 :: s5 :: s6 :: s7 :: some v :: ss) H) : kSet 8 (s0 :: s1 :: s2 :: s3 :: s4 :: s5 :: s6 :: s7 :: s8 :: ss) P v H := k
theorem g_set9 (k : P (s0 :: s1 :: s2 :: s3 :: s4 :: s5 :: s6 :: s7 :: s8 :: some v :: ss) H) : kSet 9 (s0 :: s1 :: s2 :: s3 :: s4 :: s5 :: s6 :: s7 :: s8 :: s9 :: ss) P v H := k
theorem g_set10 (k : P (s0 :: s1 :: s2 :: s3 :: s4 :: s5 :: s6 :: s7 :: s8 :: s9 :: some v :: ss) H) : kSet 10 (s0 :: s1 :: s2 :: s3 :: s4 :: s5 :: s6 :: s7 :: s8 :: s9 :: sa :: ss) P v H := k
theorem g_set11 (k : P (s0 :: s1 :: s2 :: s3 :: s4 :: s5 :: s6 :: s7 :: s8 :: s9 :: sa :: some v :: ss) H) : kSet 11 (s0 :: s1 :: s2 :: s3 :: s4 :: s5 :: s6 :: s7 :: s8 :: s9 :: sa :: sb :: ss) P v H := k
theorem g_set12 (k : P (s0 :: s1 :: s2 :: s3 :: s4 :: s5 :: s6 :: s7 :: s8 :: s9 :: sa :: sb :: some v :: ss) H) : kSet 12 (s0 :: s1 :: s2 :: s3 :: s4 :: s5 :: s6 :: s7 :: s8 :: s9 :: sa :: sb :: sc :: ss) P v H := k
theorem g_set13 (k : P (s0 :: s1 :: s2 :: s3 :: s4 :: s5 :: s6 :: s7 :: s8 :: s9 :: sa :: sb :: sc :: some v :: ss) H) : kSet 13 (s0 :: s1 :: s2 :: s3 :: s4 :: s5 :: s6 :: s7 :: s8 :: s9 :: sa :: sb :: sc :: sd :: ss) P v H := k
theorem g_set14 (k : P (s0 :: s1 :: s2 :: s3 :: s4 :: s5 :: s6 :: s7 :: s8 :: s9 :: sa :: sb :: sc :: sd :: some v :: ss) H) : kSet 14 (s0 :: s1 :: s2 :: s3 :: s4 :: s5 :: s6 :: s7 :: s8 :: s9 :: sa :: sb :: sc :: sd :: se :: ss) P v H := k
theorem g_set15 (k : P (s0 :: s1 :: s2 :: s3 :: s4 :: s5 :: s6 :: s7 :: s8 :: s9 :: sa :: sb :: sc :: sd :: se :: some v :: ss) H) : kSet 15 (s0 :: s1 :: s2 :: s3 :: s4 :: s5 :: s6 :: s7 :: s8 :: s9 :: sa :: sb :: sc :: sd :: se :: sf :: ss) P v H := k
theorem g_set16 (k : P (s0 :: s1 :: s2 :: s3 :: s4 :: s5 :: s6 :: s7 :: s8 :: s9 :: sa :: sb :: sc :: sd :: se :: sf :: some v :: ss) H) : kSet 16 (s0 :: s1 :: s2 :: s3 :: s4 :: s5 :: s6 :: s7 :: s8 :: s9 :: sa :: sb :: sc :: sd :: se :: sf :: sg :: ss) P v H := k
theorem g_set17 (k : P (s0 :: s1 :: s2 :: s3 :: s4 :: s5 :: s6 :: s7 :: s8 :: s9 :: sa :: sb :: sc :: sd :: se :: sf :: sg :: some v :: ss) H) : kSet 17 (s0 :: s1 :: s2 :: s3 :: s4 :: s5 :: s6 :: s7 :: s8 :: s9 :: sa :: sb :: sc :: sd :: se :: sf :: sg :: sh :: ss) P v H := k
theorem g_set18 (k : P (s0 :: s1 :: s2 :: s3 :: s4 :: s5 :: s6 :: s7 :: s8 :: s9 :: sa :: sb :: sc :: sd :: se :: sf :: sg :: sh :: some v :: ss) H) : kSet 18 (s0 :: s1 :: s2 :: s3 :: s4 :: s5 :: s6 :: s7 :: s8 :: s9 :: sa :: sb :: sc :: sd :: se :: sf :: sg :: sh :: si :: ss) P v H := k
/-! loops -/
variable {wi : TI} {g : TG}
theorem g_for (k : wi σ H (kFor g ts D σ)) : tFor wi g ts D σ H := k
theorem g_lc {vs : List Nat} (k : wi σ H (kLc g t te vs σ Q)) : tLc wi g t te vs σ H Q := k
variable {I0 : It → Hp → Prop}
theorem g_iList (k : ta σ H (kListI K I0)) : iList K ta σ H I0 := k
theorem g_iTup (k : ta σ H (kTupI K I0)) : iTup K ta σ H I0 := k
theorem g_iRng1 (k : tr σ H (kRng1 I0)) : iRng1 tr σ H I0 := k
theorem g_iRng2 (k : tr σ H (kRng2 I0)) : iRng2 tr σ H I0 := k
theorem g_iList1 (h : H a = some (.lst xs)) (k : I0 (Itl K a) H) : kListI K I0 (.ref a) H := ⟨a, rfl, ⟨xs, SqL.of h⟩, k⟩
theorem g_iTup1 (h : H a = some (.tup xs)) (k : I0 (Itt K a) H) : kTupI K I0 (.ref a) H := ⟨a, rfl, ⟨xs, SqT.of h⟩, k⟩
theorem g_iRng1A {n : Int} (h : -(2 ^ 62) ≤ n ∧ n < 2 ^ 62) (k : I0 (Itr 0 n.toNat) H) : kRng1 I0 [.int n] H := ⟨n, rfl, h.1, h.2, k⟩
theorem g_iRng1N {n : Nat} (h : n < 2 ^ 62) (k : I0 (Itr 0 n) H) : kRng1 I0 [.int (n : Int)] H := ⟨n, rfl, by omega, by omega, k⟩
theorem g_iRng2A {i n : Int} (h : (-(2 ^ 62) ≤ i ∧ i < 2 ^ 62 ∧ -(2 ^ 62) ≤ n ∧ n < 2 ^ 62)) (k : I0 (Itr i (n - i).toNat) H) : kRng2 I0 [.int i, .int n] H := ⟨i, n, rfl, h, k⟩
variable {a1 a3 a4 : St → Hp → Prop} {a2 : VK}
/-- for i in range(n): W what holds ahead of turn i -/
theorem loop_range {n q : Nat} (W : Nat → St → Hp → Prop) (h0 : W 0 σ H)
    (hs : ∀ (i : Nat) σ' H', i < n → W i σ' H' → kSet q σ' (ts ⟨W (i + 1), a2, a1, W (i + 1)⟩) (.int (i : Int)) H') (hd : ∀ σ' H', W n σ' H' → a1 σ' H') : kFor (gName q) ts ⟨a1, a2, a3, a4⟩ σ (Itr 0 n) H :=
  for_range W h0 (fun i σ' H' hi w => by
    have z := hs i σ' H' hi w
    rw [show (i : Int) = 0 + (i : Int) from (Int.zero_add _).symm] at z
    exact z) hd
theorem loop_range2 {lo : Int} {n q : Nat} (W : Nat → St → Hp → Prop) (h0 : W 0 σ H)
    (hs : ∀ (i : Nat) σ' H', i < n → W i σ' H' → kSet q σ' (ts ⟨W (i + 1), a2, a1, W (i + 1)⟩) (.int (lo + (i : Int))) H') (hd : ∀ σ' H', W n σ' H' → a1 σ' H') : kFor (gName q) ts ⟨a1, a2, a3, a4⟩ σ (Itr lo n) H :=
  for_range W h0 (fun i σ' H' hi w => hs i σ' H' hi w) hd
/-- for x in a list that stands still -/
theorem loop_list {q : Nat} (W : Nat → St → Hp → Prop) (h0 : W 0 σ H) (hl : ∀ i σ' H', W i σ' H' → H' a = some (.lst xs))
    (hs : ∀ (i : Nat) x σ' H', xs[i]? = some x → W i σ' H' → kSet q σ' (ts ⟨W (i + 1), a2, a1, W (i + 1)⟩) x H') (hd : ∀ σ' H', W xs.length σ' H' → a1 σ' H') : kFor (gName q) ts ⟨a1, a2, a3, a4⟩ σ (Itl K a) H :=
  for_list (xs := xs) W h0 (fun i σ' H' _ w => SqL.of (hl i σ' H' w)) (fun i x σ' H' hi w => hs i x σ' H' hi w) hd
/-- the script: frozen, or of the written part -/
theorem loop_listS {q : Nat} (W : Nat → St → Hp → Prop) (h0 : W 0 σ H) (hl : ∀ i σ' H', W i σ' H' → SqL K H' a xs)
    (hs : ∀ (i : Nat) x σ' H', xs[i]? = some x → W i σ' H' → kSet q σ' (ts ⟨W (i + 1), a2, a1, W (i + 1)⟩) x H') (hd : ∀ σ' H', W xs.length σ' H' → a1 σ' H') : kFor (gName q) ts ⟨a1, a2, a3, a4⟩ σ (Itl K a) H :=
  for_list (xs := xs) W h0 (fun i σ' H' _ w => hl i σ' H' w) (fun i x σ' H' hi w => hs i x σ' H' hi w) hd
/-- while: W what holds ahead of a turn, m falls -/
def kWh (tb : TS) (W : Nat → St → Hp → Prop) (m : Nat) (D : Ends) (σ : St) : Bool → Hp → Prop := fun b H1 =>
  if b = true then ∃ N : St → Hp → Prop, (∀ σ' H', N σ' H' → ∃ m', m' < m ∧ W m' σ' H') ∧ tb { D with nx := N, ct := N, bk := D.nx } σ H1 else D.nx σ H1
theorem loop_while (W : Nat → St → Hp → Prop) (m0 : Nat) (h0 : W m0 σ H) (hs : ∀ m σ' H', W m σ' H' → t σ' H' (kWh ts W m D σ')) : tWhile t ts D σ H := ⟨W, ⟨m0, h0⟩, hs⟩
theorem g_wh {W : Nat → St → Hp → Prop} {m : Nat} {b : Bool} (h1 : b = true → ts ⟨fun σ2 H2 => ∃ m', m' < m ∧ W m' σ2 H2, a2, a1, fun σ2 H2 => ∃ m', m' < m ∧ W m' σ2 H2⟩ σ H) (h2 : b = false → a1 σ H) : kWh ts W m ⟨a1, a2, a3, a4⟩ σ b H := by
  cases b with
  | true => exact ⟨_, fun σ' H' z => z, h1 rfl⟩
  | false => exact h2 rfl
theorem ixN_1 {n : Nat} : ixN (n + 2) 1 = some 1 := by
  unfold ixN
  rw [if_pos (by decide), if_pos (by omega)] <;> rfl
theorem atI_0 {α : Type} {z : α} {zs : List α} : atI (z :: zs) 0 = some z := atI_nat (j := 0) rfl
theorem ixN_0 {n : Nat} : ixN (n + 1) 0 = some 0 := by
  unfold ixN
  rw [if_pos (Int.le_refl 0), if_pos (by omega)] <;> rfl
theorem atI_1 {α : Type} {z w : α} {zs : List α} : atI (z :: w :: zs) 1 = some w := atI_nat (j := 1) rfl
theorem atI_2 {α : Type} {z w u : α} {zs : List α} : atI (z :: w :: u :: zs) 2 = some u := atI_nat (j := 2) rfl
theorem ixN_at {n : Nat} {i : Int} (h : 0 ≤ i) (h2 : i < n) : ixN n i = some i.toNat := by
  unfold ixN
  rw [if_pos h, if_pos h2]
/-- a list as the script's (frozen, of the written part, tracked) -/
structure sq (K : PySem.W.Frag) (a : Addr) (xs : List V) (h : Hp) : Prop where
  e : SqL K h a xs
theorem own_sq (z : Own H (sq K a xs :: F)) : SqL K H a xs := by
  obtain ⟨h, q, s⟩ := z.at1
  have q' : SqL K h a xs := q.e
  rcases q' with (q | ⟨o, q⟩) | q
  · exact .inl (.inl (s _ _ q))
  · exact .inl (.inr ⟨o, s _ _ q⟩)
  · exact .inr q
theorem sq_own (h : SqL K H a xs) : Own H [sq K a xs] := .cons H (fun _ => none) ⟨h⟩ .nil (Sub.refl H) sub_non (fun _ _ _ _ e => nomatch e)
theorem g_iListS (z : Own H (sq K a xs :: F)) (k : I0 (Itl K a) H) : kListI K I0 (.ref a) H := ⟨a, rfl, ⟨xs, own_sq z⟩, k⟩
theorem g_lenSq (z : Own H (sq K a xs :: F)) (k : Q (.int xs.length) H) : rLen K [.ref a] H Q := ⟨a, xs, rfl, .inl (own_sq z), k⟩
theorem g_sliceS {lo hi : Option Int} (z : Own H (sq K a xs :: F)) (k : ∀ q H1, Own H1 (pt q (.lst (cutV xs lo hi)) :: sq K a xs :: F) → Q (.ref q) H1) : rSlL K (.ref a) lo hi H Q := ⟨a, xs, rfl, own_sq z, fun q nq => k q _ (own_new z nq)⟩
theorem g_slice {lo hi : Option Int} (h : H a = some (.lst xs)) (z : Own H F) (k : ∀ q H1, Own H1 (pt q (.lst (cutV xs lo hi)) :: F) → Q (.ref q) H1) : rSlL K (.ref a) lo hi H Q := ⟨a, xs, rfl, SqL.of h, fun q nq => k q _ (own_new z nq)⟩
def kSl3 (r : V → Option Int → Option Int → Hp → VK → Prop) (x : V) (lo : Option Int) (Q : VK) : Option Int → Hp → Prop := fun u H3 => r x lo u H3 Q
def kSl2 (r : V → Option Int → Option Int → Hp → VK → Prop) (x : V) (th : TO) (σ : St) (Q : VK) : Option Int → Hp → Prop := fun l H2 => th σ H2 (kSl3 r x l Q)
def kSl1 (r : V → Option Int → Option Int → Hp → VK → Prop) (tl th : TO) (σ : St) (Q : VK) : VK := fun x H1 => tl σ H1 (kSl2 r x th σ Q)
def kSo (R : Option Int → Hp → Prop) : VK := fun x H1 => ∃ i, x = .int i ∧ R (some i) H1
section
variable {rs : V → Option Int → Option Int → Hp → VK → Prop} {tl th : TO} {lo hi : Option Int} {RO : Option Int → Hp → Prop}
theorem g_sl (k : ta σ H (kSl1 rs tl th σ Q)) : L2.tSl rs ta tl th σ H Q := k
theorem g_sl1 (k : tl σ H (kSl2 rs x th σ Q)) : kSl1 rs tl th σ Q x H := k
theorem g_sl2 (k : th σ H (kSl3 rs x lo Q)) : kSl2 rs x th σ Q lo H := k
theorem g_sl3 (k : rs x lo hi H Q) : kSl3 rs x lo Q hi H := k
theorem g_so (k : ta σ H (kSo RO)) : tPart ta σ H RO := k
theorem g_so1 (k : RO (some i) H) : kSo RO (.int i) H := ⟨i, rfl, k⟩
theorem g_no (k : RO none H) : tNoPart σ H RO := k
end
/-! targets -/
section
variable {t1 : TG} {u1 : TGs} {q : Nat}
def kGc (u : TGs) (r : List V) (P : St → Hp → Prop) : St → Hp → Prop := fun σ' H' => u r σ' H' P
theorem g_gname (k : kSet q σ P x H) : gName q x σ H P := k
theorem g_gtup {n : Nat} (h : H a = some (.tup xs)) (l : xs.length = n) (k : u1 xs σ H P) : gTup K n u1 (.ref a) σ H P := ⟨a, xs, rfl, SqT.of h, l, k⟩
theorem g_gcons (k : t1 v σ H (kGc u1 xs P)) : gCons t1 u1 (v :: xs) σ H P := ⟨v, xs, rfl, k⟩
theorem g_gc (k : u1 xs σ H P) : kGc u1 xs P σ H := k
theorem g_gnil (k : P σ H) : gNil [] σ H P := ⟨rfl, k⟩
theorem g_asgT {n : Nat} (k : te σ H (fun x H1 => gTup K n u1 x σ H1 D.nx)) : tAsg te (gTup K n u1) D σ H := k
theorem g_tYes {R : Bool → Hp → Prop} (k : R true H) : tYes σ H R := k
end
theorem loop_listG {g : TG} (W : Nat → St → Hp → Prop) (h0 : W 0 σ H) (hl : ∀ i σ' H', W i σ' H' → H' a = some (.lst xs))
    (hs : ∀ (i : Nat) x σ' H', xs[i]? = some x → W i σ' H' → g x σ' H' (ts ⟨W (i + 1), a2, a1, W (i + 1)⟩)) (hd : ∀ σ' H', W xs.length σ' H' → a1 σ' H') : kFor g ts ⟨a1, a2, a3, a4⟩ σ (Itl K a) H :=
  for_list (xs := xs) W h0 (fun i σ' H' _ w => SqL.of (hl i σ' H' w)) (fun i x σ' H' hi w => hs i x σ' H' hi w) hd
/-! comprehensions: the list grows, W what else is held; Y a kept item, N none -/
def kCi (te : TE) (σ2 : St) (Y : VK) (N : Hp → Prop) : Bool → Hp → Prop := fun b H3 => if b = true then te σ2 H3 Y else N H3
def kWp (vs : List Nat) (σ0 : St) (t : TT) (te : TE) (Y : VK) (N : Hp → Prop) : St → Hp → Prop := fun σ2 H2 => wipe σ2 vs = σ0 ∧ t σ2 H2 (kCi te σ2 Y N)
section
variable {Y : VK} {N : Hp → Prop} {vs : List Nat} {σ0 : St}
theorem g_wp (h : wipe σ vs = σ0) (k : t σ H (kCi te σ Y N)) : kWp vs σ0 t te Y N σ H := ⟨h, k⟩
theorem g_ciT (k : te σ H Y) : kCi te σ Y N true H := by
  show (if true = true then _ else _)
  rw [if_pos rfl]
  exact k
theorem g_ci {b : Bool} (h1 : b = true → te σ H Y) (h2 : b = false → N H) : kCi te σ Y N b H := by
  cases b with
  | true => exact h1 rfl
  | false => exact h2 rfl
theorem size_of {n : Nat} (h : n ≤ 1000000) : n < sizeLine := Nat.lt_of_le_of_lt h (by decide)
theorem comp_range {n : Nat} {g : TG} (σ0 : St) (hn : n ≤ 1000000) (hw : wipe σ vs = σ0) (W : Nat → List V → List Atom) (z : Own H (W 0 []))
    (hs : ∀ (i : Nat) acc (G : Atom) H' (Y : VK) (N : Hp → Prop), i < n → acc.length ≤ i → Own H' (G :: W i acc) → (∀ y H4, Own H4 (G :: W (i + 1) (acc ++ [y])) → Y y H4) → (∀ H3, Own H3 (G :: W (i + 1) acc) → N H3) → g (.int (i : Int)) σ0 H' (kWp vs σ0 t te Y N))
    (hd : ∀ acc D H', acc.length ≤ n → Own H' (pt D (.lst acc) :: W n acc) → Q (.ref D) H') : kLc g t te vs σ Q (Itr 0 n) H := by
  subst hw
  intro D hD
  refine lc_range (lo := 0) (n := n) (fun i H' => ∃ acc : List V, acc.length ≤ i ∧ Own H' (pt D (.lst acc) :: W i acc)) ⟨[], Nat.le_refl _, own_new z hD⟩ (fun i H' hi ⟨acc, hl, w⟩ => ?_) (fun H' ⟨acc, hl, w⟩ => hd acc D H' hl w)
  have q := hs i acc _ H' (fun y H4 => ∃ acc, H4 D = some (.lst acc) ∧ acc.length < sizeLine ∧ ∃ acc2 : List V, acc2.length ≤ i + 1 ∧ Own (upd H4 D (.lst (acc ++ [y]))) (pt D (.lst acc2) :: W (i + 1) acc2)) (fun H3 => ∃ acc2 : List V, acc2.length ≤ i + 1 ∧ Own H3 (pt D (.lst acc2) :: W (i + 1) acc2)) hi hl w
    (fun y H4 x => ⟨acc, own_pt x, size_of (by omega), acc ++ [y], by rw [List.length_append, List.length_singleton]; omega, own_set x rfl⟩) (fun H3 x => ⟨acc, by omega, x⟩)
  rw [show (i : Int) = 0 + (i : Int) from (Int.zero_add _).symm] at q
  exact q
theorem comp_list {g : TG} (σ0 : St) (hn : xs.length ≤ 1000000) (hw : wipe σ vs = σ0) (W : Nat → List V → List Atom) (z : Own H (W 0 [])) (hl : ∀ i acc H', Own H' (W i acc) → SqL K H' a xs)
    (hs : ∀ (i : Nat) x acc (G : Atom) H' (Y : VK) (N : Hp → Prop), xs[i]? = some x → acc.length ≤ i → Own H' (G :: W i acc) → (∀ y H4, Own H4 (G :: W (i + 1) (acc ++ [y])) → Y y H4) → (∀ H3, Own H3 (G :: W (i + 1) acc) → N H3) → g x σ0 H' (kWp vs σ0 t te Y N))
    (hd : ∀ acc D H', acc.length ≤ xs.length → Own H' (pt D (.lst acc) :: W xs.length acc) → Q (.ref D) H') : kLc g t te vs σ Q (Itl K a) H := by
  subst hw
  intro D hD
  refine lc_list (xs := xs) (fun i H' => ∃ acc : List V, acc.length ≤ i ∧ Own H' (pt D (.lst acc) :: W i acc)) ⟨[], Nat.le_refl _, own_new z hD⟩ (fun i H' _ ⟨acc, _, w⟩ => hl i acc H' w.tail) (fun i x H' hi ⟨acc, hl, w⟩ => ?_) (fun H' ⟨acc, hl, w⟩ => hd acc D H' hl w)
  have hi2 : i < xs.length := (List.getElem?_eq_some_iff.mp hi).1
  exact hs i x acc _ H' (fun y H4 => ∃ acc, H4 D = some (.lst acc) ∧ acc.length < sizeLine ∧ ∃ acc2 : List V, acc2.length ≤ i + 1 ∧ Own (upd H4 D (.lst (acc ++ [y]))) (pt D (.lst acc2) :: W (i + 1) acc2)) (fun H3 => ∃ acc2 : List V, acc2.length ≤ i + 1 ∧ Own H3 (pt D (.lst acc2) :: W (i + 1) acc2)) hi hl w
    (fun y H4 x => ⟨acc, own_pt x, size_of (by omega), acc ++ [y], by rw [List.length_append, List.length_singleton]; omega, own_set x rfl⟩) (fun H3 x => ⟨acc, by omega, x⟩)
end
end
end SL
end

section
set_option Elab.async false
set_option linter.all false
set_option maxRecDepth 100000
/-! SL2: attributes by names: what a written list of attributes holds. -/
namespace SL
open PySem L2
class Cl (K : PySem.W.Frag) (C : Addr) : Prop where
  h : Cls K C
class Na (K : PySem.W.Frag) (C : Addr) (f : Str) : Prop where
  h : NoAttr K C f
class Lk (fs : List (Str × V)) (f : Str) (v : outParam V) : Prop where
  h : fs.lookup f = some v
class Lm (fs : List (Str × V)) (m : Str) : Prop where
  h : fs.lookup m = none
class Pf (f : Str) (y : V) (fs : List (Str × V)) (gs : outParam (List (Str × V))) : Prop where
  h : putF f y fs = gs
class Ln (fs : List (Str × V)) : Prop where
  h : fs.length < 1000
class Mn (A : Atom) (p C : Addr) (m : Str) : Prop where
  h : ∀ h, A h → ∃ dx fs, h p = some (.ins C dx fs) ∧ fs.lookup m = none

theorem lookup_zip : ∀ {ks : List Str} {vs : List V} {i : Nat} {f : Str} {v : V}, ks.Nodup → ks[i]? = some f → vs[i]? = some v → (ks.zip vs).lookup f = some v
  | [], _, _, _, _, _, h, _ => by simp at h
  | _ :: _, [], _, _, _, _, _, h => by simp at h
  | k :: ks, w :: vs, 0, f, v, _, h1, h2 => by
    simp at h1 h2
    subst h1 h2
    show (match k == k with | true => some w | false => _) = _
    rw [beq_self_eq_true]
  | k :: ks, w :: vs, i + 1, f, v, nd, h1, h2 => by
    have m : f ∈ ks := List.mem_of_getElem? (by simpa using h1)
    have ne : f ≠ k := fun e => (List.nodup_cons.mp nd).1 (e ▸ m)
    show (match f == k with | true => some w | false => (ks.zip vs).lookup f) = _
    rw [beq_eq_false_iff_ne.mpr ne]
    exact lookup_zip (List.nodup_cons.mp nd).2 (by simpa using h1) (by simpa using h2)
theorem lookup_zip_none : ∀ {ks : List Str} {vs : List V} {f : Str}, f ∉ ks → (ks.zip vs).lookup f = none
  | [], _, _, _ => rfl
  | _ :: _, [], _, _ => rfl
  | k :: ks, w :: vs, f, h => by
    have ne : f ≠ k := fun e => h (e ▸ List.mem_cons_self ..)
    show (match f == k with | true => some w | false => (ks.zip vs).lookup f) = none
    rw [beq_eq_false_iff_ne.mpr ne]
    exact lookup_zip_none fun m => h (List.mem_cons_of_mem _ m)
theorem putF_zip : ∀ {ks : List Str} {vs : List V} {i : Nat} {f : Str} {y : V}, ks.Nodup → ks[i]? = some f → vs.length = ks.length → putF f y (ks.zip vs) = ks.zip (vs.set i y)
  | [], _, _, _, _, _, h, _ => by simp at h
  | _ :: _, [], _, _, _, _, _, h => by simp at h
  | k :: ks, w :: vs, 0, f, y, _, h1, _ => by
    simp at h1
    subst h1
    show (if k = k then (k, y) :: ks.zip vs else _) = _
    rw [if_pos rfl] <;> rfl
  | k :: ks, w :: vs, i + 1, f, y, nd, h1, hl => by
    have m : f ∈ ks := List.mem_of_getElem? (by simpa using h1)
    have ne : ¬ k = f := fun e => (List.nodup_cons.mp nd).1 (e ▸ m)
    show (if k = f then (k, y) :: ks.zip vs else (k, w) :: putF f y (ks.zip vs)) = (k, w) :: ks.zip (vs.set i y)
    rw [if_neg ne, putF_zip (List.nodup_cons.mp nd).2 (by simpa using h1) (by simpa using hl)]
theorem putF_new : ∀ {fs : List (Str × V)} {f : Str} {y : V}, f ∉ fs.map (·.1) → putF f y fs = fs ++ [(f, y)]
  | [], _, _, _ => rfl
  | (k, w) :: r, f, y, h => by
    have ne : ¬ k = f := fun e => h (by rw [e]; exact List.mem_cons_self ..)
    show (if k = f then (k, y) :: r else (k, w) :: putF f y r) = (k, w) :: (r ++ [(f, y)])
    rw [if_neg ne, putF_new fun m => h (List.mem_cons_of_mem _ m)]

section
variable {K : PySem.W.Frag} {σ : St} {H : Hp} {Q : VK} {ta tv : TE} {tr : TA} {P : St → Hp → Prop} {v x y : V} {f m : Str} {p C : Addr} {F : List Atom} {vs : List V} {fs gs : List (Str × V)}
instance {p C : Addr} {fs : List (Str × V)} {m : Str} [l : Lm fs m] : Mn (ob p C fs) p C m := ⟨fun _ ⟨⟨dx, e⟩⟩ => ⟨dx, fs, e, l.h⟩⟩
theorem h_fld1 (z : Own H (ob p C fs :: F)) [c : Cl K C] [n : Na K C f] [e : Lk fs f v] (k : Q v H) : kFld K f Q (.ref p) H := g_fld1 z c.h n.h e.h k
theorem h_st2 (z : Own H (ob p C fs :: F)) [c : Cl K C] [n : Na K C f] [s : Ln fs] [e : Pf f y fs gs] (k : ∀ H1, Own H1 (ob p C gs :: F) → P σ H1) : kSt2 K f y σ P (.ref p) H := g_st2 z c.h n.h s.h e.h k
theorem h_au1 {rd : V → V → Hp → VK → Prop} (z : Own H (ob p C fs :: F)) [c : Cl K C] [n : Na K C f] [e : Lk fs f v] (k : tv σ H (kAu2 K p C rd v f σ P)) : kAu1 K tv rd f σ P (.ref p) H := g_au1 z c.h n.h e.h k
theorem h_au3 (z : Own H (ob p C fs :: F)) [s : Ln fs] [e : Pf f y fs gs] (k : ∀ H1, Own H1 (ob p C gs :: F) → P σ H1) : kAu3 K p C f σ P y H := g_au3 z s.h e.h k
theorem h_meth1 {sp : Sp} {dvs : List V} {E : XK} {A : Atom} (z : Own H (A :: F)) (n : Mn A p C m) (k : tr σ H (kMethA sp (.ref p) dvs E Q)) : kMeth C m sp dvs E tr σ Q (.ref p) H := by
  obtain ⟨h, q, s⟩ := z.at1
  obtain ⟨dx, fs, e1, e2⟩ := n.h h q
  exact g_meth1 ⟨dx, fs, s _ _ e1, e2⟩ k
end
instance : Ln [] := ⟨by decide⟩
end SL
end

section
set_option Elab.async false
set_option linter.all false
set_option maxRecDepth 100000
/-! SL3: the straight steps, found by their heads. -/
namespace SL
open PySem L2
def kUn (ru : V → Hp → VK → Prop) (Q : VK) : VK := fun x H1 => ru x H1 Q
def rNegI : V → Hp → VK → Prop := rU fun i => .int (-i)
theorem un_negI {X : Cx} : UnR X (unaryOp .USub) rNegI := un_neg
def kGt (K : PySem.W.Frag) (n : Nat) (u1 : TGs) (σ : St) (P : St → Hp → Prop) : VK := fun x H1 => gTup K n u1 x σ H1 P
/-- one step or more; any number of steps -/
class Rd1 (G : Prop) (G' : outParam Prop) : Prop where
  h : G' → G
class Rd (G : Prop) (G' : outParam Prop) : Prop where
  h : G' → G
instance (priority := low) rd_none {G : Prop} : Rd G G := ⟨fun x => x⟩
instance (priority := high) rd_some {G G' : Prop} [r : Rd1 G G'] : Rd G G' := ⟨r.h⟩
section
variable {K : PySem.W.Frag} {σ : St} {H : Hp} {Q Y : VK} {ta tb te tv to ti : TE} {t u : TT} {tt uu ts : TS} {tr tk : TA} {P : St → Hp → Prop} {D : Ends} {v x y : V} {f m : Str} {p C : Addr} {r : R2} {i j : Int} {b c : Bool} {n : Nat} {vs xs : List V} {ns : List Nat}
  {RL : List V → Hp → Prop} {RB : Bool → Hp → Prop} {RO : Option Int → Hp → Prop} {sp : Sp} {dvs : List V} {E : XK} {rr : List V → Hp → VK → Prop} {rm : V → List V → Hp → VK → Prop} {T : String} {ru : V → Hp → VK → Prop} {rd : V → V → Hp → VK → Prop} {gi : Int → Int → Int}
  {a1 a3 a4 : St → Hp → Prop} {a2 : VK} {rs : TSet} {u1 : TGs} {t1 g : TG} {wi : TI} {I0 : It → Hp → Prop} {N : Hp → Prop} {rs3 : V → Option Int → Option Int → Hp → VK → Prop} {tl th : TO} {lo hi : Option Int} {G' : Prop}
instance rd_0 [q : Rd (Q v H) G'] : Rd1 (tC v σ H Q) G' := ⟨fun z => (show tC v σ H Q from let k : Q v H := q.h z; k)⟩
instance rd_1 [q : Rd (ta σ H (kFld K f Q)) G'] : Rd1 (tFld K ta f σ H Q) G' := ⟨fun z => (show tFld K ta f σ H Q from let k : ta σ H (kFld K f Q) := q.h z; k)⟩
instance rd_2 [q : Rd (ta σ H (kOp1 r tb σ Q)) G'] : Rd1 (tOp r ta tb σ H Q) G' := ⟨fun z => (show tOp r ta tb σ H Q from let k : ta σ H (kOp1 r tb σ Q) := q.h z; k)⟩
instance rd_3 [q : Rd (tb σ H (kOp2 r x Q)) G'] : Rd1 (kOp1 r tb σ Q x H) G' := ⟨fun z => (show kOp1 r tb σ Q x H from let k : tb σ H (kOp2 r x Q) := q.h z; k)⟩
instance rd_4 [q : Rd (r x y H Q) G'] : Rd1 (kOp2 r x Q y H) G' := ⟨fun z => (show kOp2 r x Q y H from let k : r x y H Q := q.h z; k)⟩
instance rd_5 [q : Rd (RL [] H) G'] : Rd1 (tNil σ H RL) G' := ⟨fun z => (show tNil σ H RL from let k : RL [] H := q.h z; k)⟩
instance rd_6 [q : Rd (ta σ H (kCons1 tr σ RL)) G'] : Rd1 (tCons ta tr σ H RL) G' := ⟨fun z => (show tCons ta tr σ H RL from let k : ta σ H (kCons1 tr σ RL) := q.h z; k)⟩
instance rd_7 [q : Rd (tr σ H (kCons2 x RL)) G'] : Rd1 (kCons1 tr σ RL x H) G' := ⟨fun z => (show kCons1 tr σ RL x H from let k : tr σ H (kCons2 x RL) := q.h z; k)⟩
instance rd_8 [q : Rd (RL (x :: xs) H) G'] : Rd1 (kCons2 x RL xs H) G' := ⟨fun z => (show kCons2 x RL xs H from let k : RL (x :: xs) H := q.h z; k)⟩
instance rd_9 [q : Rd (tr σ H (kCall sp dvs E Q)) G'] : Rd1 (tCall sp dvs E tr σ H Q) G' := ⟨fun z => (show tCall sp dvs E tr σ H Q from let k : tr σ H (kCall sp dvs E Q) := q.h z; k)⟩
instance rd_10 [q : Rd (sp vs H Q E) G'] : Rd1 (kCall sp [] E Q vs H) G' := ⟨fun z => (show kCall sp [] E Q vs H from let k : sp vs H Q E := q.h z; g_callA k)⟩
instance rd_11 [q : Rd (ta σ H (kMeth C m sp dvs E tr σ Q)) G'] : Rd1 (tMeth C m sp dvs E ta tr σ H Q) G' := ⟨fun z => (show tMeth C m sp dvs E ta tr σ H Q from let k : ta σ H (kMeth C m sp dvs E tr σ Q) := q.h z; k)⟩
instance rd_12 [q : Rd (sp (x :: vs) H Q E) G'] : Rd1 (kMethA sp x [] E Q vs H) G' := ⟨fun z => (show kMethA sp x [] E Q vs H from let k : sp (x :: vs) H Q E := q.h z; g_methA k)⟩
instance rd_13 [q : Rd (tr σ H (kMake C sp dvs E Q)) G'] : Rd1 (tMake C sp dvs E tr σ H Q) G' := ⟨fun z => (show tMake C sp dvs E tr σ H Q from let k : tr σ H (kMake C sp dvs E Q) := q.h z; k)⟩
instance rd_14 [q : Rd (Q (.ref p) H) G'] : Rd1 (kMade p Q .non H) G' := ⟨fun z => (show kMade p Q .non H from let k : Q (.ref p) H := q.h z; g_made k)⟩
instance rd_15 [q : Rd (tr σ H (kCB rr Q)) G'] : Rd1 (tCB rr tr σ H Q) G' := ⟨fun z => (show tCB rr tr σ H Q from let k : tr σ H (kCB rr Q) := q.h z; k)⟩
instance rd_16 [q : Rd (rr vs H Q) G'] : Rd1 (kCB rr Q vs H) G' := ⟨fun z => (show kCB rr Q vs H from let k : rr vs H Q := q.h z; k)⟩
instance rd_17 [q : Rd (to σ H (kBM K T rm tr σ Q)) G'] : Rd1 (tBM K T rm to tr σ H Q) G' := ⟨fun z => (show tBM K T rm to tr σ H Q from let k : to σ H (kBM K T rm tr σ Q) := q.h z; k)⟩
instance rd_18 [q : Rd (to σ H (kBM0 K T rm Q)) G'] : Rd1 (tBM0 K T rm to σ H Q) G' := ⟨fun z => (show tBM0 K T rm to σ H Q from let k : to σ H (kBM0 K T rm Q) := q.h z; k)⟩
instance rd_19 [q : Rd (rm x vs H Q) G'] : Rd1 (kBM2 rm x Q vs H) G' := ⟨fun z => (show kBM2 rm x Q vs H from let k : rm x vs H Q := q.h z; k)⟩
instance rd_20 [q : Rd (tr σ H (kTup Q)) G'] : Rd1 (tTup tr σ H Q) G' := ⟨fun z => (show tTup tr σ H Q from let k : tr σ H (kTup Q) := q.h z; k)⟩
instance rd_21 [q : Rd (tr σ H (kLst Q)) G'] : Rd1 (tLst tr σ H Q) G' := ⟨fun z => (show tLst tr σ H Q from let k : tr σ H (kLst Q) := q.h z; k)⟩
instance rd_22 [q : Rd (Q (.int (i + j)) H) G'] : Rd1 (rAddI (.int i) (.int j) H Q) G' := ⟨fun z => (show rAddI (.int i) (.int j) H Q from let k : Q (.int (i + j)) H := q.h z; g_addI k)⟩
instance rd_23 [q : Rd (Q (.int (i - j)) H) G'] : Rd1 (rSubI (.int i) (.int j) H Q) G' := ⟨fun z => (show rSubI (.int i) (.int j) H Q from let k : Q (.int (i - j)) H := q.h z; g_subI k)⟩
instance rd_24 [q : Rd (Q (.bl (decide (i < j))) H) G'] : Rd1 (rLtI (.int i) (.int j) H Q) G' := ⟨fun z => (show rLtI (.int i) (.int j) H Q from let k : Q (.bl (decide (i < j))) H := q.h z; g_ltI k)⟩
instance rd_25 [q : Rd (Q (.bl (decide (i ≤ j))) H) G'] : Rd1 (rLeI (.int i) (.int j) H Q) G' := ⟨fun z => (show rLeI (.int i) (.int j) H Q from let k : Q (.bl (decide (i ≤ j))) H := q.h z; g_leI k)⟩
instance rd_26 [q : Rd (Q (.bl (decide (j < i))) H) G'] : Rd1 (rGtI (.int i) (.int j) H Q) G' := ⟨fun z => (show rGtI (.int i) (.int j) H Q from let k : Q (.bl (decide (j < i))) H := q.h z; g_gtI k)⟩
instance rd_27 [q : Rd (Q (.bl (decide (j ≤ i))) H) G'] : Rd1 (rGeI (.int i) (.int j) H Q) G' := ⟨fun z => (show rGeI (.int i) (.int j) H Q from let k : Q (.bl (decide (j ≤ i))) H := q.h z; g_geI k)⟩
instance rd_28 [q : Rd (Q (.bl (decide (i = j))) H) G'] : Rd1 (rEq (.int i) (.int j) H Q) G' := ⟨fun z => (show rEq (.int i) (.int j) H Q from let k : Q (.bl (decide (i = j))) H := q.h z; g_eqI k)⟩
instance rd_29 [q : Rd (Q (.bl (!decide (i = j))) H) G'] : Rd1 (rNe (.int i) (.int j) H Q) G' := ⟨fun z => (show rNe (.int i) (.int j) H Q from let k : Q (.bl (!decide (i = j))) H := q.h z; g_neI k)⟩
instance rd_30 [q : Rd (Q (.bl (b == c)) H) G'] : Rd1 (rEq (.bl b) (.bl c) H Q) G' := ⟨fun z => (show rEq (.bl b) (.bl c) H Q from let k : Q (.bl (b == c)) H := q.h z; g_eqB k)⟩
instance rd_31 [q : Rd (Q (.bl (b != c)) H) G'] : Rd1 (rNe (.bl b) (.bl c) H Q) G' := ⟨fun z => (show rNe (.bl b) (.bl c) H Q from let k : Q (.bl (b != c)) H := q.h z; g_neB k)⟩
instance rd_32 [q : Rd (Q (.bl false) H) G'] : Rd1 (rEq (.int i) .non H Q) G' := ⟨fun z => (show rEq (.int i) .non H Q from let k : Q (.bl false) H := q.h z; ⟨rfl, k⟩)⟩
instance rd_33 [q : Rd (Q (.bl true) H) G'] : Rd1 (rNe (.int i) .non H Q) G' := ⟨fun z => (show rNe (.int i) .non H Q from let k : Q (.bl true) H := q.h z; ⟨rfl, k⟩)⟩
instance rd_34 [q : Rd (Q (.bl false) H) G'] : Rd1 (rEq .non (.int i) H Q) G' := ⟨fun z => (show rEq .non (.int i) H Q from let k : Q (.bl false) H := q.h z; ⟨rfl, k⟩)⟩
instance rd_35 [q : Rd (Q (.bl true) H) G'] : Rd1 (rNe .non (.int i) H Q) G' := ⟨fun z => (show rNe .non (.int i) H Q from let k : Q (.bl true) H := q.h z; ⟨rfl, k⟩)⟩
instance rd_36 [q : Rd (Q (.bl true) H) G'] : Rd1 (rEq .non .non H Q) G' := ⟨fun z => (show rEq .non .non H Q from let k : Q (.bl true) H := q.h z; ⟨rfl, k⟩)⟩
instance rd_37 [q : Rd (Q (.bl false) H) G'] : Rd1 (rNe .non .non H Q) G' := ⟨fun z => (show rNe .non .non H Q from let k : Q (.bl false) H := q.h z; ⟨rfl, k⟩)⟩
instance rd_38 [q : Rd (Q (.bl true) H) G'] : Rd1 (rIsN .non .non H Q) G' := ⟨fun z => (show rIsN .non .non H Q from let k : Q (.bl true) H := q.h z; ⟨rfl, k⟩)⟩
instance rd_39 [q : Rd (Q (.bl false) H) G'] : Rd1 (rNotN .non .non H Q) G' := ⟨fun z => (show rNotN .non .non H Q from let k : Q (.bl false) H := q.h z; ⟨rfl, k⟩)⟩
instance rd_40 [q : Rd (Q (.bl false) H) G'] : Rd1 (rIsN (.int i) .non H Q) G' := ⟨fun z => (show rIsN (.int i) .non H Q from let k : Q (.bl false) H := q.h z; ⟨rfl, k⟩)⟩
instance rd_41 [q : Rd (Q (.bl true) H) G'] : Rd1 (rNotN (.int i) .non H Q) G' := ⟨fun z => (show rNotN (.int i) .non H Q from let k : Q (.bl true) H := q.h z; ⟨rfl, k⟩)⟩
instance rd_42 [q : Rd (Q (.bl false) H) G'] : Rd1 (rIsN (.ref p) .non H Q) G' := ⟨fun z => (show rIsN (.ref p) .non H Q from let k : Q (.bl false) H := q.h z; ⟨rfl, k⟩)⟩
instance rd_43 [q : Rd (Q (.bl true) H) G'] : Rd1 (rNotN (.ref p) .non H Q) G' := ⟨fun z => (show rNotN (.ref p) .non H Q from let k : Q (.bl true) H := q.h z; ⟨rfl, k⟩)⟩
instance rd_44 [q : Rd (Q (.bl (decide (b = c))) H) G'] : Rd1 (rIsBl (.bl b) (.bl c) H Q) G' := ⟨fun z => (show rIsBl (.bl b) (.bl c) H Q from let k : Q (.bl (decide (b = c))) H := q.h z; g_isBl k)⟩
instance rd_45 [q : Rd (Q (.int (if i < 0 then -i else i)) H) G'] : Rd1 (rAbs [.int i] H Q) G' := ⟨fun z => (show rAbs [.int i] H Q from let k : Q (.int (if i < 0 then -i else i)) H := q.h z; g_abs k)⟩
instance rd_46 [q : Rd (Q (.int i) H) G'] : Rd1 (rInt [.int i] H Q) G' := ⟨fun z => (show rInt [.int i] H Q from let k : Q (.int i) H := q.h z; g_int k)⟩
instance rd_47 [q : Rd (Q (.int (if b then 1 else 0)) H) G'] : Rd1 (rInt [.bl b] H Q) G' := ⟨fun z => (show rInt [.bl b] H Q from let k : Q (.int (if b then 1 else 0)) H := q.h z; g_intB k)⟩
instance rd_48 [q : Rd (Q (.int (if j < i then j else i)) H) G'] : Rd1 (rMin2 [.int i, .int j] H Q) G' := ⟨fun z => (show rMin2 [.int i, .int j] H Q from let k : Q (.int (if j < i then j else i)) H := q.h z; ⟨i, j, rfl, k⟩)⟩
instance rd_49 [q : Rd (Q (.int (if j > i then j else i)) H) G'] : Rd1 (rMax2 [.int i, .int j] H Q) G' := ⟨fun z => (show rMax2 [.int i, .int j] H Q from let k : Q (.int (if j > i then j else i)) H := q.h z; ⟨i, j, rfl, k⟩)⟩
instance rd_50 [q : Rd (ta σ H (kUn ru Q)) G'] : Rd1 (tUn ru ta σ H Q) G' := ⟨fun z => (show tUn ru ta σ H Q from let k : ta σ H (kUn ru Q) := q.h z; k)⟩
instance rd_51 [q : Rd (ru x H Q) G'] : Rd1 (kUn ru Q x H) G' := ⟨fun z => (show kUn ru Q x H from let k : ru x H Q := q.h z; k)⟩
instance rd_52 [q : Rd (Q (.int (-i)) H) G'] : Rd1 (rNegI (.int i) H Q) G' := ⟨fun z => (show rNegI (.int i) H Q from let k : Q (.int (-i)) H := q.h z; ⟨i, rfl, k⟩)⟩
instance rd_53 [q : Rd (Q (.int (i + j)) H) G'] : Rd1 (rAdd (.int i) (.int j) H Q) G' := ⟨fun z => (show rAdd (.int i) (.int j) H Q from let k : Q (.int (i + j)) H := q.h z; g_rAdd k)⟩
instance rd_54 [q : Rd (Q (.int (i - j)) H) G'] : Rd1 (rSub (.int i) (.int j) H Q) G' := ⟨fun z => (show rSub (.int i) (.int j) H Q from let k : Q (.int (i - j)) H := q.h z; g_rSub k)⟩
instance rd_55 [q : Rd (ta σ H (kAndV tb σ Q)) G'] : Rd1 (tAndV ta tb σ H Q) G' := ⟨fun z => (show tAndV ta tb σ H Q from let k : ta σ H (kAndV tb σ Q) := q.h z; k)⟩
instance rd_56 [q : Rd (ta σ H (kOrV tb σ Q)) G'] : Rd1 (tOrV ta tb σ H Q) G' := ⟨fun z => (show tOrV ta tb σ H Q from let k : ta σ H (kOrV tb σ Q) := q.h z; k)⟩
instance rd_57 [q : Rd (ta σ H (kNotV Q)) G'] : Rd1 (tNotV ta σ H Q) G' := ⟨fun z => (show tNotV ta σ H Q from let k : ta σ H (kNotV Q) := q.h z; k)⟩
instance rd_58 [q : Rd (Q (.bl (!b)) H) G'] : Rd1 (kNotV Q (.bl b) H) G' := ⟨fun z => (show kNotV Q (.bl b) H from let k : Q (.bl (!b)) H := q.h z; g_notV1 k)⟩
instance rd_59 [q : Rd (tb σ H Q) G'] : Rd1 (kAndV tb σ Q (.bl true) H) G' := ⟨fun z => (show kAndV tb σ Q (.bl true) H from let k : tb σ H Q := q.h z; g_andV1 (fun _ => k) (fun z => nomatch z))⟩
instance rd_60 [q : Rd (Q (.bl false) H) G'] : Rd1 (kAndV tb σ Q (.bl false) H) G' := ⟨fun z => (show kAndV tb σ Q (.bl false) H from let k : Q (.bl false) H := q.h z; g_andV1 (fun z => nomatch z) (fun _ => k))⟩
instance rd_61 [q : Rd (tb σ H Q) G'] : Rd1 (kOrV tb σ Q (.bl false) H) G' := ⟨fun z => (show kOrV tb σ Q (.bl false) H from let k : tb σ H Q := q.h z; g_orV1 (fun z => nomatch z) (fun _ => k))⟩
instance rd_62 [q : Rd (Q (.bl true) H) G'] : Rd1 (kOrV tb σ Q (.bl true) H) G' := ⟨fun z => (show kOrV tb σ Q (.bl true) H from let k : Q (.bl true) H := q.h z; g_orV1 (fun _ => k) (fun z => nomatch z))⟩
instance rd_63 [q : Rd (te σ H (kTest RB)) G'] : Rd1 (tTest te σ H RB) G' := ⟨fun z => (show tTest te σ H RB from let k : te σ H (kTest RB) := q.h z; k)⟩
instance rd_64 [q : Rd (te σ H (kTest RB)) G'] : Rd1 (tB te σ H RB) G' := ⟨fun z => (show tB te σ H RB from let k : te σ H (kTest RB) := q.h z; k)⟩
instance rd_65 [q : Rd (RB b H) G'] : Rd1 (kTest RB (.bl b) H) G' := ⟨fun z => (show kTest RB (.bl b) H from let k : RB b H := q.h z; g_test1 k)⟩
instance rd_66 [q : Rd (t σ H (kAnd u σ RB)) G'] : Rd1 (tAnd t u σ H RB) G' := ⟨fun z => (show tAnd t u σ H RB from let k : t σ H (kAnd u σ RB) := q.h z; k)⟩
instance rd_67 [q : Rd (t σ H (kOr u σ RB)) G'] : Rd1 (tOr t u σ H RB) G' := ⟨fun z => (show tOr t u σ H RB from let k : t σ H (kOr u σ RB) := q.h z; k)⟩
instance rd_68 [q : Rd (t σ H (kNot RB)) G'] : Rd1 (tNot t σ H RB) G' := ⟨fun z => (show tNot t σ H RB from let k : t σ H (kNot RB) := q.h z; k)⟩
instance rd_69 [q : Rd (RB (!b) H) G'] : Rd1 (kNot RB b H) G' := ⟨fun z => (show kNot RB b H from let k : RB (!b) H := q.h z; k)⟩
instance rd_70 [q : Rd (u σ H RB) G'] : Rd1 (kAnd u σ RB true H) G' := ⟨fun z => (show kAnd u σ RB true H from let k : u σ H RB := q.h z; g_and1 (fun _ => k) (fun z => nomatch z))⟩
instance rd_71 [q : Rd (RB false H) G'] : Rd1 (kAnd u σ RB false H) G' := ⟨fun z => (show kAnd u σ RB false H from let k : RB false H := q.h z; g_and1 (fun z => nomatch z) (fun _ => k))⟩
instance rd_72 [q : Rd (u σ H RB) G'] : Rd1 (kOr u σ RB false H) G' := ⟨fun z => (show kOr u σ RB false H from let k : u σ H RB := q.h z; g_or1 (fun z => nomatch z) (fun _ => k))⟩
instance rd_73 [q : Rd (RB true H) G'] : Rd1 (kOr u σ RB true H) G' := ⟨fun z => (show kOr u σ RB true H from let k : RB true H := q.h z; g_or1 (fun _ => k) (fun z => nomatch z))⟩
instance rd_74 [q : Rd (RB false H) G'] : Rd1 (kAnd u σ RB (!true) H) G' := ⟨fun z => (show kAnd u σ RB (!true) H from let k : RB false H := q.h z; g_and1 (fun z => nomatch z) (fun _ => k))⟩
instance rd_75 [q : Rd (u σ H RB) G'] : Rd1 (kAnd u σ RB (!false) H) G' := ⟨fun z => (show kAnd u σ RB (!false) H from let k : u σ H RB := q.h z; g_and1 (fun _ => k) (fun z => nomatch z))⟩
instance rd_76 [q : Rd (u σ H RB) G'] : Rd1 (kOr u σ RB (!true) H) G' := ⟨fun z => (show kOr u σ RB (!true) H from let k : u σ H RB := q.h z; g_or1 (fun z => nomatch z) (fun _ => k))⟩
instance rd_77 [q : Rd (RB true H) G'] : Rd1 (kOr u σ RB (!false) H) G' := ⟨fun z => (show kOr u σ RB (!false) H from let k : RB true H := q.h z; g_or1 (fun _ => k) (fun z => nomatch z))⟩
instance rd_78 [q : Rd (t σ H (kIf ta tb σ Q)) G'] : Rd1 (tIf t ta tb σ H Q) G' := ⟨fun z => (show tIf t ta tb σ H Q from let k : t σ H (kIf ta tb σ Q) := q.h z; k)⟩
instance rd_79 [q : Rd (ta σ H Q) G'] : Rd1 (kIf ta tb σ Q true H) G' := ⟨fun z => (show kIf ta tb σ Q true H from let k : ta σ H Q := q.h z; g_if1 (fun _ => k) (fun z => nomatch z))⟩
instance rd_80 [q : Rd (tb σ H Q) G'] : Rd1 (kIf ta tb σ Q false H) G' := ⟨fun z => (show kIf ta tb σ Q false H from let k : tb σ H Q := q.h z; g_if1 (fun z => nomatch z) (fun _ => k))⟩
instance rd_81 [q : Rd (tt ⟨uu ⟨a1, a2, a3, a4⟩, a2, a3, a4⟩ σ H) G'] : Rd1 (tSeq tt uu ⟨a1, a2, a3, a4⟩ σ H) G' := ⟨fun z => (show tSeq tt uu ⟨a1, a2, a3, a4⟩ σ H from let k : tt ⟨uu ⟨a1, a2, a3, a4⟩, a2, a3, a4⟩ σ H := q.h z; k)⟩
instance rd_82 [q : Rd (a1 σ H) G'] : Rd1 (tNext ⟨a1, a2, a3, a4⟩ σ H) G' := ⟨fun z => (show tNext ⟨a1, a2, a3, a4⟩ σ H from let k : a1 σ H := q.h z; k)⟩
instance rd_83 [q : Rd (a3 σ H) G'] : Rd1 (tBreak ⟨a1, a2, a3, a4⟩ σ H) G' := ⟨fun z => (show tBreak ⟨a1, a2, a3, a4⟩ σ H from let k : a3 σ H := q.h z; k)⟩
instance rd_84 [q : Rd (a4 σ H) G'] : Rd1 (tCont ⟨a1, a2, a3, a4⟩ σ H) G' := ⟨fun z => (show tCont ⟨a1, a2, a3, a4⟩ σ H from let k : a4 σ H := q.h z; k)⟩
instance rd_85 [q : Rd (te σ H (kSet n σ a1)) G'] : Rd1 (tAsg te (gName n) ⟨a1, a2, a3, a4⟩ σ H) G' := ⟨fun z => (show tAsg te (gName n) ⟨a1, a2, a3, a4⟩ σ H from let k : te σ H (kSet n σ a1) := q.h z; k)⟩
instance rd_86 [q : Rd (te σ H (kGt K n u1 σ a1)) G'] : Rd1 (tAsg te (gTup K n u1) ⟨a1, a2, a3, a4⟩ σ H) G' := ⟨fun z => (show tAsg te (gTup K n u1) ⟨a1, a2, a3, a4⟩ σ H from let k : te σ H (kGt K n u1 σ a1) := q.h z; k)⟩
instance rd_87 [q : Rd (gTup K n u1 x σ H P) G'] : Rd1 (kGt K n u1 σ P x H) G' := ⟨fun z => (show kGt K n u1 σ P x H from let k : gTup K n u1 x σ H P := q.h z; k)⟩
instance rd_88 [q : Rd (te σ H (kSu0 to ti rSetL σ a1)) G'] : Rd1 (tAsg te (gSub to ti rSetL) ⟨a1, a2, a3, a4⟩ σ H) G' := ⟨fun z => (show tAsg te (gSub to ti rSetL) ⟨a1, a2, a3, a4⟩ σ H from let k : te σ H (kSu0 to ti rSetL σ a1) := q.h z; k)⟩
instance rd_89 [q : Rd (to σ H (kSu1 v ti rs σ P)) G'] : Rd1 (kSu0 to ti rs σ P v H) G' := ⟨fun z => (show kSu0 to ti rs σ P v H from let k : to σ H (kSu1 v ti rs σ P) := q.h z; k)⟩
instance rd_90 [q : Rd (ti σ H (kSu2 v rs x σ P)) G'] : Rd1 (kSu1 v ti rs σ P x H) G' := ⟨fun z => (show kSu1 v ti rs σ P x H from let k : ti σ H (kSu2 v rs x σ P) := q.h z; k)⟩
instance rd_91 [q : Rd (te σ H (kDrop σ a1)) G'] : Rd1 (tDrop te ⟨a1, a2, a3, a4⟩ σ H) G' := ⟨fun z => (show tDrop te ⟨a1, a2, a3, a4⟩ σ H from let k : te σ H (kDrop σ a1) := q.h z; k)⟩
instance rd_92 [q : Rd (P σ H) G'] : Rd1 (kDrop σ P v H) G' := ⟨fun z => (show kDrop σ P v H from let k : P σ H := q.h z; k)⟩
instance rd_93 [q : Rd (te σ H a2) G'] : Rd1 (tRet te ⟨a1, a2, a3, a4⟩ σ H) G' := ⟨fun z => (show tRet te ⟨a1, a2, a3, a4⟩ σ H from let k : te σ H a2 := q.h z; k)⟩
instance rd_94 [q : Rd (a2 .non H) G'] : Rd1 (tRetN ⟨a1, a2, a3, a4⟩ σ H) G' := ⟨fun z => (show tRetN ⟨a1, a2, a3, a4⟩ σ H from let k : a2 .non H := q.h z; k)⟩
instance rd_95 [q : Rd (t σ H (kIfS tt uu D σ)) G'] : Rd1 (tIfS t tt uu D σ H) G' := ⟨fun z => (show tIfS t tt uu D σ H from let k : t σ H (kIfS tt uu D σ) := q.h z; k)⟩
instance rd_96 [q : Rd (tt D σ H) G'] : Rd1 (kIfS tt uu D σ true H) G' := ⟨fun z => (show kIfS tt uu D σ true H from let k : tt D σ H := q.h z; g_ifS1 (fun _ => k) (fun z => nomatch z))⟩
instance rd_97 [q : Rd (uu D σ H) G'] : Rd1 (kIfS tt uu D σ false H) G' := ⟨fun z => (show kIfS tt uu D σ false H from let k : uu D σ H := q.h z; g_ifS1 (fun z => nomatch z) (fun _ => k))⟩
instance rd_98 [q : Rd (tv σ H (kSt1 K ta f σ a1)) G'] : Rd1 (sFld K ta tv f ⟨a1, a2, a3, a4⟩ σ H) G' := ⟨fun z => (show sFld K ta tv f ⟨a1, a2, a3, a4⟩ σ H from let k : tv σ H (kSt1 K ta f σ a1) := q.h z; k)⟩
instance rd_99 [q : Rd (ta σ H (kSt2 K f y σ P)) G'] : Rd1 (kSt1 K ta f σ P y H) G' := ⟨fun z => (show kSt1 K ta f σ P y H from let k : ta σ H (kSt2 K f y σ P) := q.h z; k)⟩
instance rd_100 [q : Rd (ta σ H (kAu1 K tv rd f σ a1)) G'] : Rd1 (sFldAug K ta tv rd f ⟨a1, a2, a3, a4⟩ σ H) G' := ⟨fun z => (show sFldAug K ta tv rd f ⟨a1, a2, a3, a4⟩ σ H from let k : ta σ H (kAu1 K tv rd f σ a1) := q.h z; k)⟩
instance rd_101 [q : Rd (rd v y H (kAu3 K p C f σ P)) G'] : Rd1 (kAu2 K p C rd v f σ P y H) G' := ⟨fun z => (show kAu2 K p C rd v f σ P y H from let k : rd v y H (kAu3 K p C f σ P) := q.h z; k)⟩
instance rd_102 [q : Rd (kSet n σ P (.int (gi i j)) H) G'] : Rd1 (kLu2 n (.int i) (ipI gi) σ P (.int j) H) G' := ⟨fun z => (show kLu2 n (.int i) (ipI gi) σ P (.int j) H from let k : kSet n σ P (.int (gi i j)) H := q.h z; g_augA k)⟩
instance rd_103 [q : Rd (wi σ H (kFor g ts D σ)) G'] : Rd1 (tFor wi g ts D σ H) G' := ⟨fun z => (show tFor wi g ts D σ H from let k : wi σ H (kFor g ts D σ) := q.h z; k)⟩
instance rd_104 [q : Rd (wi σ H (kLc g t te ns σ Q)) G'] : Rd1 (tLc wi g t te ns σ H Q) G' := ⟨fun z => (show tLc wi g t te ns σ H Q from let k : wi σ H (kLc g t te ns σ Q) := q.h z; k)⟩
instance rd_105 [q : Rd (ta σ H (kListI K I0)) G'] : Rd1 (iList K ta σ H I0) G' := ⟨fun z => (show iList K ta σ H I0 from let k : ta σ H (kListI K I0) := q.h z; k)⟩
instance rd_106 [q : Rd (ta σ H (kTupI K I0)) G'] : Rd1 (iTup K ta σ H I0) G' := ⟨fun z => (show iTup K ta σ H I0 from let k : ta σ H (kTupI K I0) := q.h z; k)⟩
instance rd_107 [q : Rd (tr σ H (kRng1 I0)) G'] : Rd1 (iRng1 tr σ H I0) G' := ⟨fun z => (show iRng1 tr σ H I0 from let k : tr σ H (kRng1 I0) := q.h z; k)⟩
instance rd_108 [q : Rd (tr σ H (kRng2 I0)) G'] : Rd1 (iRng2 tr σ H I0) G' := ⟨fun z => (show iRng2 tr σ H I0 from let k : tr σ H (kRng2 I0) := q.h z; k)⟩
instance rd_109 [q : Rd (kSet n σ P x H) G'] : Rd1 (gName n x σ H P) G' := ⟨fun z => (show gName n x σ H P from let k : kSet n σ P x H := q.h z; k)⟩
instance rd_110 [q : Rd (t1 v σ H (kGc u1 xs P)) G'] : Rd1 (gCons t1 u1 (v :: xs) σ H P) G' := ⟨fun z => (show gCons t1 u1 (v :: xs) σ H P from let k : t1 v σ H (kGc u1 xs P) := q.h z; g_gcons k)⟩
instance rd_111 [q : Rd (u1 xs σ H P) G'] : Rd1 (kGc u1 xs P σ H) G' := ⟨fun z => (show kGc u1 xs P σ H from let k : u1 xs σ H P := q.h z; k)⟩
instance rd_112 [q : Rd (P σ H) G'] : Rd1 (gNil [] σ H P) G' := ⟨fun z => (show gNil [] σ H P from let k : P σ H := q.h z; g_gnil k)⟩
instance rd_113 [q : Rd (RB true H) G'] : Rd1 (tYes σ H RB) G' := ⟨fun z => (show tYes σ H RB from let k : RB true H := q.h z; k)⟩
instance rd_114 [q : Rd (te σ H Y) G'] : Rd1 (kCi te σ Y N true H) G' := ⟨fun z => (show kCi te σ Y N true H from let k : te σ H Y := q.h z; g_ciT k)⟩
instance rd_115 [q : Rd (N H) G'] : Rd1 (kCi te σ Y N false H) G' := ⟨fun z => (show kCi te σ Y N false H from let k : N H := q.h z; k)⟩
instance rd_116 [q : Rd (ta σ H (kSl1 rs3 tl th σ Q)) G'] : Rd1 (L2.tSl rs3 ta tl th σ H Q) G' := ⟨fun z => (show L2.tSl rs3 ta tl th σ H Q from let k : ta σ H (kSl1 rs3 tl th σ Q) := q.h z; k)⟩
instance rd_117 [q : Rd (tl σ H (kSl2 rs3 x th σ Q)) G'] : Rd1 (kSl1 rs3 tl th σ Q x H) G' := ⟨fun z => (show kSl1 rs3 tl th σ Q x H from let k : tl σ H (kSl2 rs3 x th σ Q) := q.h z; k)⟩
instance rd_118 [q : Rd (th σ H (kSl3 rs3 x lo Q)) G'] : Rd1 (kSl2 rs3 x th σ Q lo H) G' := ⟨fun z => (show kSl2 rs3 x th σ Q lo H from let k : th σ H (kSl3 rs3 x lo Q) := q.h z; k)⟩
instance rd_119 [q : Rd (rs3 x lo hi H Q) G'] : Rd1 (kSl3 rs3 x lo Q hi H) G' := ⟨fun z => (show kSl3 rs3 x lo Q hi H from let k : rs3 x lo hi H Q := q.h z; k)⟩
instance rd_120 [q : Rd (ta σ H (kSo RO)) G'] : Rd1 (tPart ta σ H RO) G' := ⟨fun z => (show tPart ta σ H RO from let k : ta σ H (kSo RO) := q.h z; k)⟩
instance rd_121 [q : Rd (RO (some i) H) G'] : Rd1 (kSo RO (.int i) H) G' := ⟨fun z => (show kSo RO (.int i) H from let k : RO (some i) H := q.h z; ⟨i, rfl, k⟩)⟩
instance rd_122 [q : Rd (RO none H) G'] : Rd1 (tNoPart σ H RO) G' := ⟨fun z => (show tNoPart σ H RO from let k : RO none H := q.h z; k)⟩
variable {s0 s1 s2 s3 s4 s5 s6 s7 s8 s9 s10 s11 s12 s13 s14 s15 s16 s17 s18 s19 s20 s21 s22 s23 : Option V} {ss : St}
instance rd_v0 [q : Rd (Q v H) G'] : Rd1 (tVar 0 (some v :: ss) H Q) G' := ⟨fun z => g_var (by rfl) (q.h z)⟩
instance rd_s0 [q : Rd (P (some v :: ss) H) G'] : Rd1 (kSet 0 (s0 :: ss) P v H) G' := ⟨fun z => q.h z⟩
instance rd_a0 [q : Rd (te (some x :: ss) H (kLu2 0 x rd (some x :: ss) a1)) G'] : Rd1 (tAug 0 te rd ⟨a1, a2, a3, a4⟩ (some x :: ss) H) G' := ⟨fun z => ⟨x, by rfl, q.h z⟩⟩
instance rd_v1 [q : Rd (Q v H) G'] : Rd1 (tVar 1 (s0 :: some v :: ss) H Q) G' := ⟨fun z => g_var (by rfl) (q.h z)⟩
instance rd_s1 [q : Rd (P (s0 :: some v :: ss) H) G'] : Rd1 (kSet 1 (s0 :: s1 :: ss) P v H) G' := ⟨fun z => q.h z⟩
instance rd_a1 [q : Rd (te (s0 :: some x :: ss) H (kLu2 1 x rd (s0 :: some x :: ss) a1)) G'] : Rd1 (tAug 1 te rd ⟨a1, a2, a3, a4⟩ (s0 :: some x :: ss) H) G' := ⟨fun z => ⟨x, by rfl, q.h z⟩⟩
instance rd_v2 [q : Rd (Q v H) G'] : Rd1 (tVar 2 (s0 :: s1 :: some v :: ss) H Q) G' := ⟨fun z => g_var (by rfl) (q.h z)⟩
instance rd_s2 [q : Rd (P (s0 :: s1 :: some v :: ss) H) G'] : Rd1 (kSet 2 (s0 :: s1 :: s2 :: ss) P v H) G' := ⟨fun z => q.h z⟩
instance rd_a2 [q : Rd (te (s0 :: s1 :: some x :: ss) H (kLu2 2 x rd (s0 :: s1 :: some x :: ss) a1)) G'] : Rd1 (tAug 2 te rd ⟨a1, a2, a3, a4⟩ (s0 :: s1 :: some x :: ss) H) G' := ⟨fun z => ⟨x, by rfl, q.h z⟩⟩
instance rd_v3 [q : Rd (Q v H) G'] : Rd1 (tVar 3 (s0 :: s1 :: s2 :: some v :: ss) H Q) G' := ⟨fun z => g_var (by rfl) (q.h z)⟩
instance rd_s3 [q : Rd (P (s0 :: s1 :: s2 :: some v :: ss) H) G'] : Rd1 (kSet 3 (s0 :: s1 :: s2 :: s3 :: ss) P v H) G' := ⟨fun z => q.h z⟩
instance rd_a3 [q : Rd (te (s0 :: s1 :: s2 :: some x :: ss) H (kLu2 3 x rd (s0 :: s1 :: s2 :: some x :: ss) a1)) G'] : Rd1 (tAug 3 te rd ⟨a1, a2, a3, a4⟩ (s0 :: s1 :: s2 :: some x :: ss) H) G' := ⟨fun z => ⟨x, by rfl, q.h z⟩⟩
instance rd_v4 [q : Rd (Q v H) G'] : Rd1 (tVar 4 (s0 :: s1 :: s2 :: s3 :: some v :: ss) H Q) G' := ⟨fun z => g_var (by rfl) (q.h z)⟩
instance rd_s4 [q : Rd (P (s0 :: s1 :: s2 :: s3 :: some v :: ss) H) G'] : Rd1 (kSet 4 (s0 :: s1 :: s2 :: s3 :: s4 :: ss) P v H) G' := ⟨fun z => q.h z⟩
instance rd_a4 [q : Rd (te (s0 :: s1 :: s2 :: s3 :: some x :: ss) H (kLu2 4 x rd (s0 :: s1 :: s2 :: s3 :: some x :: ss) a1)) G'] : Rd1 (tAug 4 te rd ⟨a1, a2, a3, a4⟩ (s0 :: s1 :: s2 :: s3 :: some x :: ss) H) G' := ⟨fun z => ⟨x, by rfl, q.h z⟩⟩
instance rd_v5 [q : Rd (Q v H) G'] : Rd1 (tVar 5 (s0 :: s1 :: s2 :: s3 :: s4 :: some v :: ss) H Q) G' := ⟨fun z => g_var (by rfl) (q.h z)⟩
instance rd_s5 [q : Rd (P (s0 :: s1 :: s2 :: s3 :: s4 :: some v :: ss) H) G'] : Rd1 (kSet 5 (s0 :: s1 :: s2 :: s3 :: s4 :: s5 :: ss) P v H) G' := ⟨fun z => q.h z⟩
instance rd_a5 [q : Rd (te (s0 :: s1 :: s2 :: s3 :: s4 :: some x :: ss) H (kLu2 5 x rd (s0 :: s1 :: s2 :: s3 :: s4 :: some x :: ss) a1)) G'] : Rd1 (tAug 5 te rd ⟨a1, a2, a3, a4⟩ (s0 :: s1 :: s2 :: s3 :: s4 :: some x :: ss) H) G' := ⟨fun z => ⟨x, by rfl, q.h z⟩⟩
instance rd_v6 [q : Rd (Q v H) G'] : Rd1 (tVar 6 (s0 :: s1 :: s2 :: s3 :: s4 :: s5 :: some v :: ss) H Q) G' := ⟨fun z => g_var (by rfl) (q.h z)⟩
instance rd_s6 [q : Rd (P (s0 :: s1 :: s2 :: s3 :: s4 :: s5 :: some v :: ss) H) G'] : Rd1 (kSet 6 (s0 :: s1 :: s2 :: s3 :: s4 :: s5 :: s6 :: ss) P v H) G' := ⟨fun z => q.h z⟩
instance rd_a6 [q : Rd (te (s0 :: s1 :: s2 :: s3 :: s4 :: s5 :: some x :: ss) H (kLu2 6 x rd (s0 :: s1 :: s2 :: s3 :: s4 :: s5 :: some x :: ss) a1)) G'] : Rd1 (tAug 6 te rd ⟨a1, a2, a3, a4⟩ (s0 :: s1 :: s2 :: s3 :: s4 :: s5 :: some x :: ss) H) G' := ⟨fun z => ⟨x, by rfl, q.h z⟩⟩
instance rd_v7 [q : Rd (Q v H) G'] : Rd1 (tVar 7 (s0 :: s1 :: s2 :: s3 :: s4 :: s5 :: s6 :: some v :: ss) H Q) G' := ⟨fun z => g_var (by rfl) (q.h z)⟩
instance rd_s7 [q : Rd (P (s0 :: s1 :: s2 :: s3 :: s4 :: s5 :: s6 :: some v :: ss) H) G'] : Rd1 (kSet 7 (s0 :: s1 :: s2 :: s3 :: s4 :: s5 :: s6 :: s7 :: ss) P v H) G' := ⟨fun z => q.h z⟩
instance rd_a7 [q : Rd (te (s0 :: s1 :: s2 :: s3 :: s4 :: s5 :: s6 :: some x :: ss) H (kLu2 7 x rd (s0 :: s1 :: s2 :: s3 :: s4 :: s5 :: s6 :: some x :: ss) a1)) G'] : Rd1 (tAug 7 te rd ⟨a1, a2, a3, a4⟩ (s0 :: s1 :: s2 :: s3 :: s4 :: s5 :: s6 :: some x :: ss) H) G' := ⟨fun z => ⟨x, by rfl, q.h z⟩⟩
instance rd_v8 [q : Rd (Q v H) G'] : Rd1 (tVar 8 (s0 :: s1 :: s2 :: s3 :: s4 :: s5 :: s6 :: s7 :: some v :: ss) H Q) G' := ⟨fun z => g_var (by rfl) (q.h z)⟩
instance rd_s8 [q : Rd (P (s0 :: s1 :: s2 :: s3 :: s4 :: s5 :: s6 :: s7 :: some v :: ss) H) G'] : Rd1 (kSet 8 (s0 :: s1 :: s2 :: s3 :: s4 :: s5 :: s6 :: s7 :: s8 :: ss) P v H) G' := ⟨fun z => q.h z⟩
instance rd_a8 [q : Rd (te (s0 :: s1 :: s2 :: s3 :: s4 :: s5 :: s6 :: s7 :: some x :: ss) H (kLu2 8 x rd (s0 :: s1 :: s2 :: s3 :: s4 :: s5 :: s6 :: s7 :: some x :: ss) a1)) G'] : Rd1 (tAug 8 te rd ⟨a1, a2, a3, a4⟩ (s0 :: s1 :: s2 :: s3 :: s4 :: s5 :: s6 :: s7 :: some x :: ss) H) G' := ⟨fun z => ⟨x, by rfl, q.h z⟩⟩
instance rd_v9 [q : Rd (Q v H) G'] : Rd1 (tVar 9 (s0 :: s1 :: s2 :: s3 :: s4 :: s5 :: s6 :: s7 :: s8 :: some v :: ss) H Q) G' := ⟨fun z => g_var (by rfl) (q.h z)⟩
instance rd_s9 [q : Rd (P (s0 :: s1 :: s2 :: s3 :: s4 :: s5 :: s6 :: s7 :: s8 :: some v :: ss) H) G'] : Rd1 (kSet 9 (s0 :: s1 :: s2 :: s3 :: s4 :: s5 :: s6 :: s7 :: s8 :: s9 :: ss) P v H) G' := ⟨fun z => q.h z⟩
instance rd_a9 [q : Rd (te (s0 :: s1 :: s2 :: s3 :: s4 :: s5 :: s6 :: s7 :: s8 :: some x :: ss) H (kLu2 9 x rd (s0 :: s1 :: s2 :: s3 :: s4 :: s5 :: s6 :: s7 :: s8 :: some x :: ss) a1)) G'] : Rd1 (tAug 9 te rd ⟨a1, a2, a3, a4⟩ (s0 :: s1 :: s2 :: s3 :: s4 :: s5 :: s6 :: s7 :: s8 :: some x :: ss) H) G' := ⟨fun z => ⟨x, by rfl, q.h z⟩⟩
instance rd_v10 [q : Rd (Q v H) G'] : Rd1 (tVar 10 (s0 :: s1 :: s2 :: s3 :: s4 :: s5 :: s6 :: s7 :: s8 :: s9 :: some v :: ss) H Q) G' := ⟨fun z => g_var (by rfl) (q.h z)⟩
instance rd_s10 [q : Rd (P (s0 :: s1 :: s2 :: s3 :: s4 :: s5 :: s6 :: s7 :: s8 :: s9 :: some v :: ss) H) G'] : Rd1 (kSet 10 (s0 :: s1 :: s2 :: s3 :: s4 :: s5 :: s6 :: s7 :: s8 :: s9 :: s10 :: ss) P v H) G' := ⟨fun z => q.h z⟩
instance rd_a10 [q : Rd (te (s0 :: s1 :: s2 :: s3 :: s4 :: s5 :: s6 :: s7 :: s8 :: s9 :: some x :: ss) H (kLu2 10 x rd (s0 :: s1 :: s2 :: s3 :: s4 :: s5 :: s6 :: s7 :: s8 :: s9 :: some x :: ss) a1)) G'] : Rd1 (tAug 10 te rd ⟨a1, a2, a3, a4⟩ (s0 :: s1 :: s2 :: s3 :: s4 :: s5 :: s6 :: s7 :: s8 :: s9 :: some x :: ss) H) G' := ⟨fun z => ⟨x, by rfl, q.h z⟩⟩
instance rd_v11 [q : Rd (Q v H) G'] : Rd1 (tVar 11 (s0 :: s1 :: s2 :: s3 :: s4 :: s5 :: s6 :: s7 :: s8 :: s9 :: s10 :: some v :: ss) H Q) G' := ⟨fun z => g_var (by rfl) (q.h z)⟩
instance rd_s11 [q : Rd (P (s0 :: s1 :: s2 :: s3 :: s4 :: s5 :: s6 :: s7 :: s8 :: s9 :: s10 :: some v :: ss) H) G'] : Rd1 (kSet 11 (s0 :: s1 :: s2 :: s3 :: s4 :: s5 :: s6 :: s7 :: s8 :: s9 :: s10 :: s11 :: ss) P v H) G' := ⟨fun z => q.h z⟩
instance rd_a11 [q : Rd (te (s0 :: s1 :: s2 :: s3 :: s4 :: s5 :: s6 :: s7 :: s8 :: s9 :: s10 :: some x :: ss) H (kLu2 11 x rd (s0 :: s1 :: s2 :: s3 :: s4 :: s5 :: s6 :: s7 :: s8 :: s9 :: s10 :: some x :: ss) a1)) G'] : Rd1 (tAug 11 te rd ⟨a1, a2, a3, a4⟩ (s0 :: s1 :: s2 :: s3 :: s4 :: s5 :: s6 :: s7 :: s8 :: s9 :: s10 :: some x :: ss) H) G' := ⟨fun z => ⟨x, by rfl, q.h z⟩⟩
instance rd_v12 [q : Rd (Q v H) G'] : Rd1 (tVar 12 (s0 :: s1 :: s2 :: s3 :: s4 :: s5 :: s6 :: s7 :: s8 :: s9 :: s10 :: s11 :: some v :: ss) H Q) G' := ⟨fun z => g_var (by rfl) (q.h z)⟩
instance rd_s12 [q : Rd (P (s0 :: s1 :: s2 :: s3 :: s4 :: s5 :: s6 :: s7 :: s8 :: s9 :: s10 :: s11 :: some v :: ss) H) G'] : Rd1 (kSet 12 (s0 :: s1 :: s2 :: s3 :: s4 :: s5 :: s6 :: s7 :: s8 :: s9 :: s10 :: s11 :: s12 :: ss) P v H) G' := ⟨fun z => q.h z⟩
instance rd_a12 [q : Rd (te (s0 :: s1 :: s2 :: s3 :: s4 :: s5 :: s6 :: s7 :: s8 :: s9 :: s10 :: s11 :: some x :: ss) H (kLu2 12 x rd (s0 :: s1 :: s2 :: s3 :: s4 :: s5 :: s6 :: s7 :: s8 :: s9 :: s10 :: s11 :: some x :: ss) a1)) G'] : Rd1 (tAug 12 te rd ⟨a1, a2, a3, a4⟩ (s0 :: s1 :: s2 :: s3 :: s4 :: s5 :: s6 :: s7 :: s8 :: s9 :: s10 :: s11 :: some x :: ss) H) G' := ⟨fun z => ⟨x, by rfl, q.h z⟩⟩
instance rd_v13 [q : Rd (Q v H) G'] : Rd1 (tVar 13 (s0 :: s1 :: s2 :: s3 :: s4 :: s5 :: s6 :: s7 :: s8 :: s9 :: s10 :: s11 :: s12 :: some v :: ss) H Q) G' := ⟨fun z => g_var (by rfl) (q.h z)⟩
instance rd_s13 [q : Rd (P (s0 :: s1 :: s2 :: s3 :: s4 :: s5 :: s6 :: s7 :: s8 :: s9 :: s10 :: s11 :: s12 :: some v :: ss) H) G'] : Rd1 (kSet 13 (s0 :: s1 :: s2 :: s3 :: s4 :: s5 :: s6 :: s7 :: s8 :: s9 :: s10 :: s11 :: s12 :: s13 :: ss) P v H) G' := ⟨fun z => q.h z⟩
instance rd_a13 [q : Rd (te (s0 :: s1 :: s2 :: s3 :: s4 :: s5 :: s6 :: s7 :: s8 :: s9 :: s10 :: s11 :: s12 :: some x :: ss) H (kLu2 13 x rd (s0 :: s1 :: s2 :: s3 :: s4 :: s5 :: s6 :: s7 :: s8 :: s9 :: s10 :: s11 :: s12 :: some x :: ss) a1)) G'] : Rd1 (tAug 13 te rd ⟨a1, a2, a3, a4⟩ (s0 :: s1 :: s2 :: s3 :: s4 :: s5 :: s6 :: s7 :: s8 :: s9 :: s10 :: s11 :: s12 :: some x :: ss) H) G' := ⟨fun z => ⟨x, by rfl, q.h z⟩⟩
instance rd_v14 [q : Rd (Q v H) G'] : Rd1 (tVar 14 (s0 :: s1 :: s2 :: s3 :: s4 :: s5 :: s6 :: s7 :: s8 :: s9 :: s10 :: s11 :: s12 :: s13 :: some v :: ss) H Q) G' := ⟨fun z => g_var (by rfl) (q.h z)⟩
instance rd_s14 [q : Rd (P (s0 :: s1 :: s2 :: s3 :: s4 :: s5 :: s6 :: s7 :: s8 :: s9 :: s10 :: s11 :: s12 :: s13 :: some v :: ss) H) G'] : Rd1 (kSet 14 (s0 :: s1 :: s2 :: s3 :: s4 :: s5 :: s6 :: s7 :: s8 :: s9 :: s10 :: s11 :: s12 :: s13 :: s14 :: ss) P v H) G' := ⟨fun z => q.h z⟩
instance rd_a14 [q : Rd (te (s0 :: s1 :: s2 :: s3 :: s4 :: s5 :: s6 :: s7 :: s8 :: s9 :: s10 :: s11 :: s12 :: s13 :: some x :: ss) H (kLu2 14 x rd (s0 :: s1 :: s2 :: s3 :: s4 :: s5 :: s6 :: s7 :: s8 :: s9 :: s10 :: s11 :: s12 :: s13 :: some x :: ss) a1)) G'] : Rd1 (tAug 14 te rd ⟨a1, a2, a3, a4⟩ (s0 :: s1 :: s2 :: s3 :: s4 :: s5 :: s6 :: s7 :: s8 :: s9 :: s10 :: s11 :: s12 :: s13 :: some x :: ss) H) G' := ⟨fun z => ⟨x, by rfl, q.h z⟩⟩
instance rd_v15 [q : Rd (Q v H) G'] : Rd1 (tVar 15 (s0 :: s1 :: s2 :: s3 :: s4 :: s5 :: s6 :: s7 :: s8 :: s9 :: s10 :: s11 :: s12 :: s13 :: s14 :: some v :: ss) H Q) G' := ⟨fun z => g_var (by rfl) (q.h z)⟩
instance rd_s15 [q : Rd (P (s0 :: s1 :: s2 :: s3 :: s4 :: s5 :: s6 :: s7 :: s8 :: s9 :: s10 :: s11 :: s12 :: s13 :: s14 :: some v :: ss) H) G'] : Rd1 (kSet 15 (s0 :: s1 :: s2 :: s3 :: s4 :: s5 :: s6 :: s7 :: s8 :: s9 :: s10 :: s11 :: s12 :: s13 :: s14 :: s15 :: ss) P v H) G' := ⟨fun z => q.h z⟩
instance rd_a15 [q : Rd (te (s0 :: s1 :: s2 :: s3 :: s4 :: s5 :: s6 :: s7 :: s8 :: s9 :: s10 :: s11 :: s12 :: s13 :: s14 :: some x :: ss) H (kLu2 15 x rd (s0 :: s1 :: s2 :: s3 :: s4 :: s5 :: s6 :: s7 :: s8 :: s9 :: s10 :: s11 :: s12 :: s13 :: s14 :: some x :: ss) a1)) G'] : Rd1 (tAug 15 te rd ⟨a1, a2, a3, a4⟩ (s0 :: s1 :: s2 :: s3 :: s4 :: s5 :: s6 :: s7 :: s8 :: s9 :: s10 :: s11 :: s12 :: s13 :: s14 :: some x :: ss) H) G' := ⟨fun z => ⟨x, by rfl, q.h z⟩⟩
instance rd_v16 [q : Rd (Q v H) G'] : Rd1 (tVar 16 (s0 :: s1 :: s2 :: s3 :: s4 :: s5 :: s6 :: s7 :: s8 :: s9 :: s10 :: s11 :: s12 :: s13 :: s14 :: s15 :: some v :: ss) H Q) G' := ⟨fun z => g_var (by rfl) (q.h z)⟩
instance rd_s16 [q : Rd (P (s0 :: s1 :: s2 :: s3 :: s4 :: s5 :: s6 :: s7 :: s8 :: s9 :: s10 :: s11 :: s12 :: s13 :: s14 :: s15 :: some v :: ss) H) G'] : Rd1 (kSet 16 (s0 :: s1 :: s2 :: s3 :: s4 :: s5 :: s6 :: s7 :: s8 :: s9 :: s10 :: s11 :: s12 :: s13 :: s14 :: s15 :: s16 :: ss) P v H) G' := ⟨fun z => q.h z⟩
instance rd_a16 [q : Rd (te (s0 :: s1 :: s2 :: s3 :: s4 :: s5 :: s6 :: s7 :: s8 :: s9 :: s10 :: s11 :: s12 :: s13 :: s14 :: s15 :: some x :: ss) H (kLu2 16 x rd (s0 :: s1 :: s2 :: s3 :: s4 :: s5 :: s6 :: s7 :: s8 :: s9 :: s10 :: s11 :: s12 :: s13 :: s14 :: s15 :: some x :: ss) a1)) G'] : Rd1 (tAug 16 te rd ⟨a1, a2, a3, a4⟩ (s0 :: s1 :: s2 :: s3 :: s4 :: s5 :: s6 :: s7 :: s8 :: s9 :: s10 :: s11 :: s12 :: s13 :: s14 :: s15 :: some x :: ss) H) G' := ⟨fun z => ⟨x, by rfl, q.h z⟩⟩
instance rd_v17 [q : Rd (Q v H) G'] : Rd1 (tVar 17 (s0 :: s1 :: s2 :: s3 :: s4 :: s5 :: s6 :: s7 :: s8 :: s9 :: s10 :: s11 :: s12 :: s13 :: s14 :: s15 :: s16 :: some v :: ss) H Q) G' := ⟨fun z => g_var (by rfl) (q.h z)⟩
instance rd_s17 [q : Rd (P (s0 :: s1 :: s2 :: s3 :: s4 :: s5 :: s6 :: s7 :: s8 :: s9 :: s10 :: s11 :: s12 :: s13 :: s14 :: s15 :: s16 :: some v :: ss) H) G'] : Rd1 (kSet 17 (s0 :: s1 :: s2 :: s3 :: s4 :: s5 :: s6 :: s7 :: s8 :: s9 :: s10 :: s11 :: s12 :: s13 :: s14 :: s15 :: s16 :: s17 :: ss) P v H) G' := ⟨fun z => q.h z⟩
instance rd_a17 [q : Rd (te (s0 :: s1 :: s2 :: s3 :: s4 :: s5 :: s6 :: s7 :: s8 :: s9 :: s10 :: s11 :: s12 :: s13 :: s14 :: s15 :: s16 :: some x :: ss) H (kLu2 17 x rd (s0 :: s1 :: s2 :: s3 :: s4 :: s5 :: s6 :: s7 :: s8 :: s9 :: s10 :: s11 :: s12 :: s13 :: s14 :: s15 :: s16 :: some x :: ss) a1)) G'] : Rd1 (tAug 17 te rd ⟨a1, a2, a3, a4⟩ (s0 :: s1 :: s2 :: s3 :: s4 :: s5 :: s6 :: s7 :: s8 :: s9 :: s10 :: s11 :: s12 :: s13 :: s14 :: s15 :: s16 :: some x :: ss) H) G' := ⟨fun z => ⟨x, by rfl, q.h z⟩⟩
instance rd_v18 [q : Rd (Q v H) G'] : Rd1 (tVar 18 (s0 :: s1 :: s2 :: s3 :: s4 :: s5 :: s6 :: s7 :: s8 :: s9 :: s10 :: s11 :: s12 :: s13 :: s14 :: s15 :: s16 :: s17 :: some v :: ss) H Q) G' := ⟨fun z => g_var (by rfl) (q.h z)⟩
instance rd_s18 [q : Rd (P (s0 :: s1 :: s2 :: s3 :: s4 :: s5 :: s6 :: s7 :: s8 :: s9 :: s10 :: s11 :: s12 :: s13 :: s14 :: s15 :: s16 :: s17 :: some v :: ss) H) G'] : Rd1 (kSet 18 (s0 :: s1 :: s2 :: s3 :: s4 :: s5 :: s6 :: s7 :: s8 :: s9 :: s10 :: s11 :: s12 :: s13 :: s14 :: s15 :: s16 :: s17 :: s18 :: ss) P v H) G' := ⟨fun z => q.h z⟩
instance rd_a18 [q : Rd (te (s0 :: s1 :: s2 :: s3 :: s4 :: s5 :: s6 :: s7 :: s8 :: s9 :: s10 :: s11 :: s12 :: s13 :: s14 :: s15 :: s16 :: s17 :: some x :: ss) H (kLu2 18 x rd (s0 :: s1 :: s2 :: s3 :: s4 :: s5 :: s6 :: s7 :: s8 :: s9 :: s10 :: s11 :: s12 :: s13 :: s14 :: s15 :: s16 :: s17 :: some x :: ss) a1)) G'] : Rd1 (tAug 18 te rd ⟨a1, a2, a3, a4⟩ (s0 :: s1 :: s2 :: s3 :: s4 :: s5 :: s6 :: s7 :: s8 :: s9 :: s10 :: s11 :: s12 :: s13 :: s14 :: s15 :: s16 :: s17 :: some x :: ss) H) G' := ⟨fun z => ⟨x, by rfl, q.h z⟩⟩
instance rd_v19 [q : Rd (Q v H) G'] : Rd1 (tVar 19 (s0 :: s1 :: s2 :: s3 :: s4 :: s5 :: s6 :: s7 :: s8 :: s9 :: s10 :: s11 :: s12 :: s13 :: s14 :: s15 :: s16 :: s17 :: s18 :: some v :: ss) H Q) G' := ⟨fun z => g_var (by rfl) (q.h z)⟩
instance rd_s19 [q : Rd (P (s0 :: s1 :: s2 :: s3 :: s4 :: s5 :: s6 :: s7 :: s8 :: s9 :: s10 :: s11 :: s12 :: s13 :: s14 :: s15 :: s16 :: s17 :: s18 :: some v :: ss) H) G'] : Rd1 (kSet 19 (s0 :: s1 :: s2 :: s3 :: s4 :: s5 :: s6 :: s7 :: s8 :: s9 :: s10 :: s11 :: s12 :: s13 :: s14 :: s15 :: s16 :: s17 :: s18 :: s19 :: ss) P v H) G' := ⟨fun z => q.h z⟩
instance rd_a19 [q : Rd (te (s0 :: s1 :: s2 :: s3 :: s4 :: s5 :: s6 :: s7 :: s8 :: s9 :: s10 :: s11 :: s12 :: s13 :: s14 :: s15 :: s16 :: s17 :: s18 :: some x :: ss) H (kLu2 19 x rd (s0 :: s1 :: s2 :: s3 :: s4 :: s5 :: s6 :: s7 :: s8 :: s9 :: s10 :: s11 :: s12 :: s13 :: s14 :: s15 :: s16 :: s17 :: s18 :: some x :: ss) a1)) G'] : Rd1 (tAug 19 te rd ⟨a1, a2, a3, a4⟩ (s0 :: s1 :: s2 :: s3 :: s4 :: s5 :: s6 :: s7 :: s8 :: s9 :: s10 :: s11 :: s12 :: s13 :: s14 :: s15 :: s16 :: s17 :: s18 :: some x :: ss) H) G' := ⟨fun z => ⟨x, by rfl, q.h z⟩⟩
instance rd_v20 [q : Rd (Q v H) G'] : Rd1 (tVar 20 (s0 :: s1 :: s2 :: s3 :: s4 :: s5 :: s6 :: s7 :: s8 :: s9 :: s10 :: s11 :: s12 :: s13 :: s14 :: s15 :: s16 :: s17 :: s18 :: s19 :: some v :: ss) H Q) G' := ⟨fun z => g_var (by rfl) (q.h z)⟩
instance rd_s20 [q : Rd (P (s0 :: s1 :: s2 :: s3 :: s4 :: s5 :: s6 :: s7 :: s8 :: s9 :: s10 :: s11 :: s12 :: s13 :: s14 :: s15 :: s16 :: s17 :: s18 :: s19 :: some v :: ss) H) G'] : Rd1 (kSet 20 (s0 :: s1 :: s2 :: s3 :: s4 :: s5 :: s6 :: s7 :: s8 :: s9 :: s10 :: s11 :: s12 :: s13 :: s14 :: s15 :: s16 :: s17 :: s18 :: s19 :: s20 :: ss) P v H) G' := ⟨fun z => q.h z⟩
instance rd_a20 [q : Rd (te (s0 :: s1 :: s2 :: s3 :: s4 :: s5 :: s6 :: s7 :: s8 :: s9 :: s10 :: s11 :: s12 :: s13 :: s14 :: s15 :: s16 :: s17 :: s18 :: s19 :: some x :: ss) H (kLu2 20 x rd (s0 :: s1 :: s2 :: s3 :: s4 :: s5 :: s6 :: s7 :: s8 :: s9 :: s10 :: s11 :: s12 :: s13 :: s14 :: s15 :: s16 :: s17 :: s18 :: s19 :: some x :: ss) a1)) G'] : Rd1 (tAug 20 te rd ⟨a1, a2, a3, a4⟩ (s0 :: s1 :: s2 :: s3 :: s4 :: s5 :: s6 :: s7 :: s8 :: s9 :: s10 :: s11 :: s12 :: s13 :: s14 :: s15 :: s16 :: s17 :: s18 :: s19 :: some x :: ss) H) G' := ⟨fun z => ⟨x, by rfl, q.h z⟩⟩
instance rd_v21 [q : Rd (Q v H) G'] : Rd1 (tVar 21 (s0 :: s1 :: s2 :: s3 :: s4 :: s5 :: s6 :: s7 :: s8 :: s9 :: s10 :: s11 :: s12 :: s13 :: s14 :: s15 :: s16 :: s17 :: s18 :: s19 :: s20 :: some v :: ss) H Q) G' := ⟨fun z => g_var (by rfl) (q.h z)⟩
instance rd_s21 [q : Rd (P (s0 :: s1 :: s2 :: s3 :: s4 :: s5 :: s6 :: s7 :: s8 :: s9 :: s10 :: s11 :: s12 :: s13 :: s14 :: s15 :: s16 :: s17 :: s18 :: s19 :: s20 :: some v :: ss) H) G'] : Rd1 (kSet 21 (s0 :: s1 :: s2 :: s3 :: s4 :: s5 :: s6 :: s7 :: s8 :: s9 :: s10 :: s11 :: s12 :: s13 :: s14 :: s15 :: s16 :: s17 :: s18 :: s19 :: s20 :: s21 :: ss) P v H) G' := ⟨fun z => q.h z⟩
instance rd_a21 [q : Rd (te (s0 :: s1 :: s2 :: s3 :: s4 :: s5 :: s6 :: s7 :: s8 :: s9 :: s10 :: s11 :: s12 :: s13 :: s14 :: s15 :: s16 :: s17 :: s18 :: s19 :: s20 :: some x :: ss) H (kLu2 21 x rd (s0 :: s1 :: s2 :: s3 :: s4 :: s5 :: s6 :: s7 :: s8 :: s9 :: s10 :: s11 :: s12 :: s13 :: s14 :: s15 :: s16 :: s17 :: s18 :: s19 :: s20 :: some x :: ss) a1)) G'] : Rd1 (tAug 21 te rd ⟨a1, a2, a3, a4⟩ (s0 :: s1 :: s2 :: s3 :: s4 :: s5 :: s6 :: s7 :: s8 :: s9 :: s10 :: s11 :: s12 :: s13 :: s14 :: s15 :: s16 :: s17 :: s18 :: s19 :: s20 :: some x :: ss) H) G' := ⟨fun z => ⟨x, by rfl, q.h z⟩⟩
instance rd_v22 [q : Rd (Q v H) G'] : Rd1 (tVar 22 (s0 :: s1 :: s2 :: s3 :: s4 :: s5 :: s6 :: s7 :: s8 :: s9 :: s10 :: s11 :: s12 :: s13 :: s14 :: s15 :: s16 :: s17 :: s18 :: s19 :: s20 :: s21 :: some v :: ss) H Q) G' := ⟨fun z => g_var (by rfl) (q.h z)⟩
instance rd_s22 [q : Rd (P (s0 :: s1 :: s2 :: s3 :: s4 :: s5 :: s6 :: s7 :: s8 :: s9 :: s10 :: s11 :: s12 :: s13 :: s14 :: s15 :: s16 :: s17 :: s18 :: s19 :: s20 :: s21 :: some v :: ss) H) G'] : Rd1 (kSet 22 (s0 :: s1 :: s2 :: s3 :: s4 :: s5 :: s6 :: s7 :: s8 :: s9 :: s10 :: s11 :: s12 :: s13 :: s14 :: s15 :: s16 :: s17 :: s18 :: s19 :: s20 :: s21 :: s22 :: ss) P v H) G' := ⟨fun z => q.h z⟩
instance rd_a22 [q : Rd (te (s0 :: s1 :: s2 :: s3 :: s4 :: s5 :: s6 :: s7 :: s8 :: s9 :: s10 :: s11 :: s12 :: s13 :: s14 :: s15 :: s16 :: s17 :: s18 :: s19 :: s20 :: s21 :: some x :: ss) H (kLu2 22 x rd (s0 :: s1 :: s2 :: s3 :: s4 :: s5 :: s6 :: s7 :: s8 :: s9 :: s10 :: s11 :: s12 :: s13 :: s14 :: s15 :: s16 :: s17 :: s18 :: s19 :: s20 :: s21 :: some x :: ss) a1)) G'] : Rd1 (tAug 22 te rd ⟨a1, a2, a3, a4⟩ (s0 :: s1 :: s2 :: s3 :: s4 :: s5 :: s6 :: s7 :: s8 :: s9 :: s10 :: s11 :: s12 :: s13 :: s14 :: s15 :: s16 :: s17 :: s18 :: s19 :: s20 :: s21 :: some x :: ss) H) G' := ⟨fun z => ⟨x, by rfl, q.h z⟩⟩
instance rd_v23 [q : Rd (Q v H) G'] : Rd1 (tVar 23 (s0 :: s1 :: s2 :: s3 :: s4 :: s5 :: s6 :: s7 :: s8 :: s9 :: s10 :: s11 :: s12 :: s13 :: s14 :: s15 :: s16 :: s17 :: s18 :: s19 :: s20 :: s21 :: s22 :: some v :: ss) H Q) G' := ⟨fun z => g_var (by rfl) (q.h z)⟩
instance rd_s23 [q : Rd (P (s0 :: s1 :: s2 :: s3 :: s4 :: s5 :: s6 :: s7 :: s8 :: s9 :: s10 :: s11 :: s12 :: s13 :: s14 :: s15 :: s16 :: s17 :: s18 :: s19 :: s20 :: s21 :: s22 :: some v :: ss) H) G'] : Rd1 (kSet 23 (s0 :: s1 :: s2 :: s3 :: s4 :: s5 :: s6 :: s7 :: s8 :: s9 :: s10 :: s11 :: s12 :: s13 :: s14 :: s15 :: s16 :: s17 :: s18 :: s19 :: s20 :: s21 :: s22 :: s23 :: ss) P v H) G' := ⟨fun z => q.h z⟩
instance rd_a23 [q : Rd (te (s0 :: s1 :: s2 :: s3 :: s4 :: s5 :: s6 :: s7 :: s8 :: s9 :: s10 :: s11 :: s12 :: s13 :: s14 :: s15 :: s16 :: s17 :: s18 :: s19 :: s20 :: s21 :: s22 :: some x :: ss) H (kLu2 23 x rd (s0 :: s1 :: s2 :: s3 :: s4 :: s5 :: s6 :: s7 :: s8 :: s9 :: s10 :: s11 :: s12 :: s13 :: s14 :: s15 :: s16 :: s17 :: s18 :: s19 :: s20 :: s21 :: s22 :: some x :: ss) a1)) G'] : Rd1 (tAug 23 te rd ⟨a1, a2, a3, a4⟩ (s0 :: s1 :: s2 :: s3 :: s4 :: s5 :: s6 :: s7 :: s8 :: s9 :: s10 :: s11 :: s12 :: s13 :: s14 :: s15 :: s16 :: s17 :: s18 :: s19 :: s20 :: s21 :: s22 :: some x :: ss) H) G' := ⟨fun z => ⟨x, by rfl, q.h z⟩⟩
theorem rd_go {G G' : Prop} [r : Rd1 G G'] (k : G') : G := r.h k
end
end SL
end

section
set_option Elab.async false
set_option linter.all false
set_option maxRecDepth 100000
/-! SL4: data of any depth: isinstance, ==. -/
namespace SL
open PySem L2
section
variable {K : PySem.W.Frag} {H : Hp} {Q : VK} {i : Int} {b : Bool} {a : Addr} {xs : List V} {G' : Prop} {z : Str}
theorem isi_of {x : V} {A B : String} {r : Bool} (t : TyOf K H x (.type A)) (e : kitB A B = some r) (k : Q (.bl r) H) : rIsi K [x, .ty B] H Q := ⟨x, .ty B, .type A, .type B, r, rfl, .ty _, .base t, kit_ty e, k⟩
instance rd_i1 [q : Rd (Q (.bl true) H) G'] : Rd1 (rIsi K [.int i, .ty "int"] H Q) G' := ⟨fun z => isi_of (.int i) (by decide +kernel) (q.h z)⟩
instance rd_i2 [q : Rd (Q (.bl false) H) G'] : Rd1 (rIsi K [.int i, .ty "bool"] H Q) G' := ⟨fun z => isi_of (.int i) (by decide +kernel) (q.h z)⟩
instance rd_i3 [q : Rd (Q (.bl false) H) G'] : Rd1 (rIsi K [.int i, .ty "tuple"] H Q) G' := ⟨fun z => isi_of (.int i) (by decide +kernel) (q.h z)⟩
instance rd_i4 [q : Rd (Q (.bl false) H) G'] : Rd1 (rIsi K [.int i, .ty "list"] H Q) G' := ⟨fun z => isi_of (.int i) (by decide +kernel) (q.h z)⟩
instance rd_i5 [q : Rd (Q (.bl true) H) G'] : Rd1 (rIsi K [.bl b, .ty "bool"] H Q) G' := ⟨fun z => isi_of (.bl b) (by decide +kernel) (q.h z)⟩
instance rd_i6 [q : Rd (Q (.bl true) H) G'] : Rd1 (rIsi K [.bl b, .ty "int"] H Q) G' := ⟨fun z => isi_of (.bl b) (by decide +kernel) (q.h z)⟩
instance rd_i7 [q : Rd (Q (.bl false) H) G'] : Rd1 (rIsi K [.non, .ty "bool"] H Q) G' := ⟨fun z => isi_of .non (by decide +kernel) (q.h z)⟩
instance rd_i8 [q : Rd (Q (.bl false) H) G'] : Rd1 (rIsi K [.non, .ty "int"] H Q) G' := ⟨fun z => isi_of .non (by decide +kernel) (q.h z)⟩
instance rd_i9 [q : Rd (Q (.bl false) H) G'] : Rd1 (rIsi K [.non, .ty "tuple"] H Q) G' := ⟨fun z => isi_of .non (by decide +kernel) (q.h z)⟩
instance rd_i10 [q : Rd (Q (.bl false) H) G'] : Rd1 (rIsi K [.str z, .ty "tuple"] H Q) G' := ⟨fun w => isi_of (.str z) (by decide +kernel) (q.h w)⟩
instance rd_i11 [q : Rd (Q (.bl false) H) G'] : Rd1 (rIsi K [.str z, .ty "int"] H Q) G' := ⟨fun w => isi_of (.str z) (by decide +kernel) (q.h w)⟩
instance rd_i12 [q : Rd (Q (.bl false) H) G'] : Rd1 (rIsi K [.str z, .ty "list"] H Q) G' := ⟨fun w => isi_of (.str z) (by decide +kernel) (q.h w)⟩
theorem g_isiLL (h : H a = some (.lst xs)) (k : Q (.bl true) H) : rIsi K [.ref a, .ty "list"] H Q := isi_of (.lst h) (by decide +kernel) k
theorem g_isiLT (h : H a = some (.lst xs)) (k : Q (.bl false) H) : rIsi K [.ref a, .ty "tuple"] H Q := isi_of (.lst h) (by decide +kernel) k
theorem g_isiLI (h : H a = some (.lst xs)) (k : Q (.bl false) H) : rIsi K [.ref a, .ty "int"] H Q := isi_of (.lst h) (by decide +kernel) k
theorem g_isiTT (h : H a = some (.tup xs)) (k : Q (.bl true) H) : rIsi K [.ref a, .ty "tuple"] H Q := isi_of (.tup h) (by decide +kernel) k
theorem g_isiTL (h : H a = some (.tup xs)) (k : Q (.bl false) H) : rIsi K [.ref a, .ty "list"] H Q := isi_of (.tup h) (by decide +kernel) k
theorem g_isiTI (h : H a = some (.tup xs)) (k : Q (.bl false) H) : rIsi K [.ref a, .ty "int"] H Q := isi_of (.tup h) (by decide +kernel) k
theorem g_isiTB (h : H a = some (.tup xs)) (k : Q (.bl false) H) : rIsi K [.ref a, .ty "bool"] H Q := isi_of (.tup h) (by decide +kernel) k
end
/-! ### data as Lean's own -/
class Dat (α : Type) where
  d : α → PyData
  n : Nat
  lay : ∀ x, (d x).canLay0 = true
  dep : ∀ x, (d x).depth ≤ n
  inj : ∀ x y, PyData.eqv (d x) (d y) = true → x = y
theorem Dat.self {α : Type} [D : Dat α] (x : α) : PyData.eqv (D.d x) (D.d x) = true := SeqAt.eqv_refl _ (D.lay x)
theorem Dat.eq {α : Type} [D : Dat α] [DecidableEq α] (x y : α) : PyData.eqv (D.d x) (D.d y) = decide (x = y) := by
  by_cases h : x = y
  · rw [decide_eq_true h, h]
    exact D.self y
  · rw [decide_eq_false h]
    cases e : PyData.eqv (D.d x) (D.d y) with
    | false => rfl
    | true => exact absurd (D.inj x y e) h
theorem Dat.shaped {α : Type} [D : Dat α] (hn : D.n ≤ 64) (x : α) : SeqAt.shaped (D.d x) = true := Bool.and_eq_true_iff.mpr ⟨D.lay x, decide_eq_true (Nat.le_trans (D.dep x) hn)⟩
instance : Dat Int where
  d := .int
  n := 0
  lay := fun _ => rfl
  dep := fun _ => Nat.le_refl _
  inj := fun x y h => by
    have h2 : (x == y) = true := h
    exact eq_of_beq h2
instance : Dat Bool where
  d := .bool
  n := 0
  lay := fun _ => rfl
  dep := fun _ => Nat.le_refl _
  inj := fun x y h => by
    have h2 : (x == y) = true := h
    exact eq_of_beq h2
theorem lay_all {α : Type} [D : Dat α] : ∀ xs : List α, PyData.canLayAll0 (xs.map D.d) = true
  | [] => rfl
  | x :: xs => by
    show ((D.d x).canLay0 && PyData.canLayAll0 (xs.map D.d)) = true
    rw [D.lay x, lay_all xs] <;> rfl
theorem dep_all {α : Type} [D : Dat α] : ∀ xs : List α, PyData.depthAll (xs.map D.d) ≤ D.n
  | [] => Nat.zero_le _
  | x :: xs => by
    show max (D.d x).depth (PyData.depthAll (xs.map D.d)) ≤ D.n
    have h1 := D.dep x
    have h2 := dep_all (D := D) xs
    omega
theorem inj_all {α : Type} [D : Dat α] : ∀ xs ys : List α, PyData.eqvAll (xs.map D.d) (ys.map D.d) = true → xs = ys
  | [], [], _ => rfl
  | [], _ :: _, h => by cases h
  | _ :: _, [], h => by cases h
  | x :: xs, y :: ys, h => by
    have h2 : (PyData.eqv (D.d x) (D.d y) && PyData.eqvAll (xs.map D.d) (ys.map D.d)) = true := h
    obtain ⟨h3, h4⟩ := Bool.and_eq_true_iff.mp h2
    rw [D.inj x y h3, inj_all xs ys h4]
instance {α : Type} [D : Dat α] : Dat (List α) where
  d := fun xs => .list (xs.map D.d)
  n := D.n + 1
  lay := fun xs => by
    show PyData.canLayAll0 _ = true
    exact lay_all xs
  dep := fun xs => by
    show PyData.depthAll _ + 1 ≤ D.n + 1
    exact Nat.succ_le_succ (dep_all xs)
  inj := fun xs ys h => inj_all xs ys h
/-! what stands at a value, as data -/
section
variable {K : PySem.W.Frag} {H : Hp} {Q : VK} {x y : V} {G' : Prop}
def Is {α : Type} [D : Dat α] (K : PySem.W.Frag) (H : Hp) (v : V) (x : α) : Prop := Dp K H v (D.d x)
theorem is_int {i : Int} : Is K H (.int i) i := .int i
theorem is_bl {b : Bool} : Is K H (.bl b) b := .bl b
theorem dps_map {α : Type} [D : Dat α] {g : α → V} (h : ∀ x, Is K H (g x) x) : ∀ xs : List α, DpAll K H (xs.map g) (xs.map D.d)
  | [] => .nil
  | x :: xs => .cons (h x) (dps_map h xs)
theorem is_lst {α : Type} [D : Dat α] {g : α → V} {a : Addr} {xs : List α} (e : H a = some (.lst (xs.map g))) (h : ∀ x, Is K H (g x) x) : Is K H (.ref a) xs := .lst (SqL.of e) (dps_map h xs)
theorem is_ints {a : Addr} {xs : List Int} (e : H a = some (.lst (xs.map V.int))) : Is K H (.ref a) xs := is_lst e fun _ => is_int
theorem is_bls {a : Addr} {xs : List Bool} (e : H a = some (.lst (xs.map V.bl))) : Is K H (.ref a) xs := is_lst e fun _ => is_bl
class IsL (vs : List V) (xs : outParam (List Int)) : Prop where
  h : vs = xs.map V.int
instance : IsL [] [] := ⟨rfl⟩
instance {i : Int} {vs : List V} {xs : List Int} [q : IsL vs xs] : IsL (V.int i :: vs) (i :: xs) := ⟨by rw [q.h] <;> rfl⟩
theorem is_lit {a : Addr} {vs : List V} {xs : List Int} (e : H a = some (.lst vs)) [q : IsL vs xs] : Is K H (.ref a) xs := is_ints (by rw [e, q.h])
theorem g_eqD {α : Type} [D : Dat α] [DecidableEq α] {u w : α} (h1 : Is K H x u) (h2 : Is K H y w) (hn : D.n ≤ 64) (k : Q (.bl (decide (u = w))) H) : rEqD K x y H Q := ⟨D.d u, D.d w, h1, h2, D.shaped hn u, D.shaped hn w, by rw [D.eq]; exact k⟩
theorem g_neD {α : Type} [D : Dat α] [DecidableEq α] {u w : α} (h1 : Is K H x u) (h2 : Is K H y w) (hn : D.n ≤ 64) (k : Q (.bl (!decide (u = w))) H) : rNeD K x y H Q := ⟨D.d u, D.d w, h1, h2, D.shaped hn u, D.shaped hn w, by rw [D.eq]; exact k⟩
end
/-- an int or None -/
def vO : Option Int → V
  | none => .non
  | some i => .int i
section
variable {K : PySem.W.Frag} {H : Hp} {Q : VK} {a b : Option Int} {G' : Prop} {i : Int}
theorem vO_eq : decide (vO a = vO b) = decide (a = b) := by
  cases a <;> cases b <;> simp [vO]
theorem vO_scal : scal (vO a) (vO b) = true := by cases a <;> cases b <;> rfl
instance rd_o1 [q : Rd (Q (.bl (decide (a = b))) H) G'] : Rd1 (rEq (vO a) (vO b) H Q) G' := ⟨fun z => ⟨vO_scal, by rw [vO_eq]; exact q.h z⟩⟩
instance rd_o2 [q : Rd (Q (.bl (!decide (a = b))) H) G'] : Rd1 (rNe (vO a) (vO b) H Q) G' := ⟨fun z => ⟨vO_scal, by rw [vO_eq]; exact q.h z⟩⟩
instance rd_o3 [q : Rd (Q (.bl (decide (a = none))) H) G'] : Rd1 (rIsN (vO a) .non H Q) G' := ⟨fun z => ⟨rfl, by rw [show (V.non) = vO none from rfl, vO_eq]; exact q.h z⟩⟩
instance rd_o4 [q : Rd (Q (.bl (!decide (a = none))) H) G'] : Rd1 (rNotN (vO a) .non H Q) G' := ⟨fun z => ⟨rfl, by rw [show (V.non) = vO none from rfl, vO_eq]; exact q.h z⟩⟩
instance rd_o5 [q : Rd (Q (.bl (decide (a = some i))) H) G'] : Rd1 (rEq (vO a) (.int i) H Q) G' := ⟨fun z => by
  show rEq (vO a) (vO (some i)) H Q
  exact ⟨vO_scal, by rw [vO_eq]; exact q.h z⟩⟩
instance rd_o6 [q : Rd (Q (.bl (!decide (a = some i))) H) G'] : Rd1 (rNe (vO a) (.int i) H Q) G' := ⟨fun z => by
  show rNe (vO a) (vO (some i)) H Q
  exact ⟨vO_scal, by rw [vO_eq]; exact q.h z⟩⟩
instance rd_o7 [q : Rd (Q (.bl (decide (a = none))) H) G'] : Rd1 (rEq (vO a) .non H Q) G' := ⟨fun z => by
  show rEq (vO a) (vO none) H Q
  exact ⟨vO_scal, by rw [vO_eq]; exact q.h z⟩⟩
instance rd_o8 [q : Rd (Q (.bl (!decide (a = none))) H) G'] : Rd1 (rNe (vO a) .non H Q) G' := ⟨fun z => by
  show rNe (vO a) (vO none) H Q
  exact ⟨vO_scal, by rw [vO_eq]; exact q.h z⟩⟩
instance rd_o9 [q : Rd (Q (.bl false) H) G'] : Rd1 (rIsi K [vO a, .ty "bool"] H Q) G' := ⟨fun z => by
  cases a with
  | none => exact isi_of .non (by decide +kernel) (q.h z)
  | some i => exact isi_of (.int i) (by decide +kernel) (q.h z)⟩
end
end SL
end

section
set_option linter.all false
set_option autoImplicit true
set_option relaxedAutoImplicit true
namespace SL
open PySem L2
theorem hd_fld {K f Q x H} (k : kFld K f Q x H) : kFld K f Q x H := k
theorem hd_st2 {K f y s P x H} (k : kSt2 K f y s P x H) : kSt2 K f y s P x H := k
theorem hd_au1 {K tv rd f s P x H} (k : kAu1 K tv rd f s P x H) : kAu1 K tv rd f s P x H := k
theorem hd_au3 {K p C f s P y H} (k : kAu3 K p C f s P y H) : kAu3 K p C f s P y H := k
theorem hd_meth {C m sp dvs E tr s Q x H} (k : kMeth C m sp dvs E tr s Q x H) : kMeth C m sp dvs E tr s Q x H := k
theorem hd_len {K vs H Q} (k : rLen K vs H Q) : rLen K vs H Q := k
theorem hd_bm {K ty rr tr s Q x H} (k : kBM K ty rr tr s Q x H) : kBM K ty rr tr s Q x H := k
theorem hd_bm0 {K ty rr Q x H} (k : kBM0 K ty rr Q x H) : kBM0 K ty rr Q x H := k
theorem hd_popAt {x vs H Q} (k : rPopAt x vs H Q) : rPopAt x vs H Q := k
theorem hd_app {x vs H Q} (k : rAppend x vs H Q) : rAppend x vs H Q := k
theorem hd_lst {Q vs H} (k : kLst Q vs H) : kLst Q vs H := k
theorem hd_tup {Q vs H} (k : kTup Q vs H) : kTup Q vs H := k
theorem hd_list {K vs H Q} (k : rList K vs H Q) : rList K vs H Q := k
theorem hd_ixL {K x y H Q} (k : rIxL K x y H Q) : rIxL K x y H Q := k
theorem hd_ixT {K x y H Q} (k : rIxT K x y H Q) : rIxT K x y H Q := k
theorem hd_su2 {y rr x s P z H} (k : kSu2 y rr x s P z H) : kSu2 y rr x s P z H := k
theorem hd_slL {K x lo hi H Q} (k : rSlL K x lo hi H Q) : rSlL K x lo hi H Q := k
theorem hd_listI {K I0 x H} (k : kListI K I0 x H) : kListI K I0 x H := k
theorem hd_tupI {K I0 x H} (k : kTupI K I0 x H) : kTupI K I0 x H := k
theorem hd_gtup {K n u1 x s H P} (k : gTup K n u1 x s H P) : gTup K n u1 x s H P := k
theorem hd_rng1 {I0 vs H} (k : kRng1 I0 vs H) : kRng1 I0 vs H := k
theorem hd_rng2 {I0 vs H} (k : kRng2 I0 vs H) : kRng2 I0 vs H := k
theorem hd_make {C sp dvs E Q vs H} (k : kMake C sp dvs E Q vs H) : kMake C sp dvs E Q vs H := k
theorem hd_isi {K vs H Q} (k : rIsi K vs H Q) : rIsi K vs H Q := k
theorem hd_eqD {K x y H Q} (k : rEqD K x y H Q) : rEqD K x y H Q := k
theorem hd_neD {K x y H Q} (k : rNeD K x y H Q) : rNeD K x y H Q := k
end SL
end

section
set_option Elab.async false
set_option linter.all false
set_option maxRecDepth 100000
/-! ## SL6: lists of one kind (xs.map g), comprehensions over a frame that stands still -/
namespace SL
open PySem PySem.Spec PyProof.Rows L2
section
variable {K : PySem.W.Frag} {H : Hp} {F : List Atom} {Q : VK} {a l p : Addr} {α : Type} {g : α → V} {xs ys : List α} {z d : α} {P : L2.St → Hp → Prop} {σ : L2.St}
/-- the item at a place, by a number of the program -/
def at0 [Inhabited α] (xs : List α) (i : Int) : α := xs.getD i.toNat default
theorem at0_nat [Inhabited α] {j : Nat} : at0 xs (j : Int) = xs.getD j default := rfl
theorem atI_map [Inhabited α] {i : Int} (h : 0 ≤ i ∧ i < xs.length) : atI (xs.map g) i = some (g (at0 xs i)) := by
  have e : i = (i.toNat : Int) := (Int.toNat_of_nonneg h.1).symm
  have b : i.toNat < xs.length := by omega
  have q : (xs.map g)[i.toNat]? = some (g (at0 xs i)) := by
    rw [List.getElem?_map, List.getElem?_eq_getElem b]
    show some (g xs[i.toNat]) = some (g (xs.getD i.toNat default))
    rw [List.getD_eq_getElem?_getD, List.getElem?_eq_getElem b] <;> rfl
  rw [e]
  exact atI_nat q
theorem ixN_of {n : Nat} {i : Int} (h : 0 ≤ i ∧ i < n) : ixN n i = some i.toNat := by
  unfold ixN
  rw [if_pos h.1, if_pos h.2]
theorem g_ixLM [Inhabited α] {i : Int} (h : H a = some (.lst (xs.map g))) (e : 0 ≤ i ∧ i < xs.length) (k : Q (g (at0 xs i)) H) : rIxL K (.ref a) (.int i) H Q := g_ixL h (atI_map e) k
theorem g_setLM {i : Int} (zz : Own H (pt a (.lst (xs.map g)) :: F)) (e : 0 ≤ i ∧ i < xs.length) (k : ∀ H1, Own H1 (pt a (.lst ((xs.set i.toNat z).map g)) :: F) → P σ H1) : kSu2 (g z) rSetL (.ref a) σ P (.int i) H :=
  g_setL (j := i.toNat) zz (by rw [List.length_map]; exact ixN_of e) fun H1 q => k H1 (by rw [List.map_set]; exact q)
theorem g_appendM (zz : Own H (pt a (.lst (xs.map g)) :: F)) (s : xs.length < 10000000) (k : ∀ H1, Own H1 (pt a (.lst ((xs ++ [z]).map g)) :: F) → Q .non H1) : rAppend (.ref a) [g z] H Q :=
  g_append zz (by rw [List.length_map]; exact s) fun H1 q => k H1 (by rw [List.map_append]; exact q)
theorem vO_some {o : Int} : vO (some o) = .int o := rfl
theorem vO_none : vO none = .non := rfl
theorem g_setOS {xs : List (Option Int)} {i o : Int} (zz : Own H (pt a (.lst (xs.map vO)) :: F)) (e : 0 ≤ i ∧ i < xs.length) (k : ∀ H1, Own H1 (pt a (.lst ((xs.set i.toNat (some o)).map vO)) :: F) → P σ H1) : kSu2 (.int o) rSetL (.ref a) σ P (.int i) H := g_setLM (g := vO) (z := some o) zz e k
theorem g_setON {xs : List (Option Int)} {i : Int} (zz : Own H (pt a (.lst (xs.map vO)) :: F)) (e : 0 ≤ i ∧ i < xs.length) (k : ∀ H1, Own H1 (pt a (.lst ((xs.set i.toNat none).map vO)) :: F) → P σ H1) : kSu2 .non rSetL (.ref a) σ P (.int i) H := g_setLM (g := vO) (z := none) zz e k
theorem flat_one {β : Type} (n : Nat) (x : β) : (List.replicate n [x]).flatten = List.replicate n x := by
  induction n with
  | zero => rfl
  | succ n ih => rw [List.replicate_succ, List.flatten_cons, ih] <;> rfl
theorem g_repB {i : Int} {b : Bool} (h : H a = some (.lst [.bl b])) (zz : Own H F) (s : 0 ≤ i ∧ i ≤ 1000) (k : ∀ q H1, Own H1 (pt q (.lst ((List.replicate i.toNat b).map V.bl)) :: F) → Q (.ref q) H1) : rRep (.ref a) (.int i) H Q :=
  g_rep h zz s (show (1 : Nat) ≤ 1000 by decide) fun q H1 w => k q H1 (by rw [flat_one] at w; rw [List.map_replicate]; exact w)
theorem g_repI {i n : Int} (h : H a = some (.lst [.int n])) (zz : Own H F) (s : 0 ≤ i ∧ i ≤ 1000) (k : ∀ q H1, Own H1 (pt q (.lst ((List.replicate i.toNat n).map V.int)) :: F) → Q (.ref q) H1) : rRep (.ref a) (.int i) H Q :=
  g_rep h zz s (show (1 : Nat) ≤ 1000 by decide) fun q H1 w => k q H1 (by rw [flat_one] at w; rw [List.map_replicate]; exact w)
theorem g_repN {i : Int} {y : V} (h : H a = some (.lst [y])) (zz : Own H F) (s : 0 ≤ i ∧ i ≤ 1000) (k : ∀ q H1, Own H1 (pt q (.lst (List.replicate i.toNat y)) :: F) → Q (.ref q) H1) : rRep (.ref a) (.int i) H Q :=
  g_rep h zz s (show (1 : Nat) ≤ 1000 by decide) fun q H1 w => k q H1 (by rw [flat_one] at w; exact w)
theorem hd_rep {x y : V} (k : rRep x y H Q) : rRep x y H Q := k
theorem hd_cat {x y : V} (k : rCat x y H Q) : rCat x y H Q := k
theorem hd_ext {x : V} {vs : List V} (k : rExtend x vs H Q) : rExtend x vs H Q := k
theorem hd_pop {x : V} {vs : List V} (k : rPop x vs H Q) : rPop x vs H Q := k
theorem g_catM {zs : List α} (h : H a = some (.lst (xs.map g))) (h2 : H l = some (.lst (zs.map g))) (zz : Own H F) (s : xs.length + zs.length ≤ 10000000) (k : ∀ q H1, Own H1 (pt q (.lst ((xs ++ zs).map g)) :: F) → Q (.ref q) H1) : rCat (.ref a) (.ref l) H Q :=
  g_cat h h2 zz (by rw [List.length_map, List.length_map]; exact s) fun q H1 w => k q H1 (by rw [List.map_append]; exact w)
theorem g_extendM {zs : List α} (zz : Own H (pt a (.lst (xs.map g)) :: F)) (h : H l = some (.lst (zs.map g))) (s : xs.length + zs.length ≤ 10000000) (k : ∀ H1, Own H1 (pt a (.lst ((xs ++ zs).map g)) :: F) → Q .non H1) : rExtend (.ref a) [.ref l] H Q :=
  g_extend zz h (by rw [List.length_map, List.length_map]; exact s) fun H1 w => k H1 (by rw [List.map_append]; exact w)
end
section
variable {K : PySem.W.Frag} {H : Hp} {F : List Atom} {Q : VK} {a : Addr} {σ : L2.St} {vs : List Nat} {t : TT} {te : TE} {α : Type}
theorem comp_rangeP {n : Nat} {g : TG} (σ0 : L2.St) (pp : Nat → Bool) (f : Nat → V) (hn : n ≤ 1000000) (hw : wipe σ vs = σ0) (z : Own H F)
    (hs : ∀ (i : Nat) (G : Atom) H' (Y : VK) (N : Hp → Prop), i < n → Own H' (G :: F) → (pp i = true → ∀ H4, Own H4 (G :: F) → Y (f i) H4) → (pp i = false → ∀ H3, Own H3 (G :: F) → N H3) → g (.int (i : Int)) σ0 H' (kWp vs σ0 t te Y N))
    (hd : ∀ D H', Own H' (pt D (.lst (((List.range n).filter pp).map f)) :: F) → Q (.ref D) H') : kLc g t te vs σ Q (Itr 0 n) H := by
  refine comp_range σ0 hn hw (fun i acc => pu (acc = ((List.range i).filter pp).map f) :: F) (own_put rfl z) ?_ ?_
  · intro i acc G H' Y N hi hl w hY hN
    obtain ⟨e, w⟩ := own_pu (own_p1 w)
    refine hs i G H' Y N hi w (fun hp H4 w4 => hY _ _ (own_p1 (own_put ?_ w4))) (fun hp H3 w3 => hN _ (own_p1 (own_put ?_ w3)))
    · rw [e, List.range_succ, List.filter_append, List.map_append]
      show _ = _ ++ (List.filter pp [i]).map f
      rw [List.filter_cons_of_pos hp] <;> rfl
    · rw [e, List.range_succ, List.filter_append, List.map_append]
      show _ = _ ++ (List.filter pp [i]).map f
      rw [List.filter_cons_of_neg (by rw [hp]; exact Bool.false_ne_true)]
      show _ = _ ++ []
      rw [List.append_nil]
  · intro acc D H' hl w
    obtain ⟨e, w⟩ := own_pu (own_p1 w)
    rw [e] at w
    exact hd D H' w
theorem comp_listP {g : TG} (xs : List α) (gx : α → V) (σ0 : L2.St) (pp : α → Bool) (f : α → V) (hn : xs.length ≤ 1000000) (hw : wipe σ vs = σ0) (z : Own H F) (hl : ∀ H', Own H' F → SqL K H' a (xs.map gx))
    (hs : ∀ (x : α) (G : Atom) H' (Y : VK) (N : Hp → Prop), x ∈ xs → Own H' (G :: F) → (pp x = true → ∀ H4, Own H4 (G :: F) → Y (f x) H4) → (pp x = false → ∀ H3, Own H3 (G :: F) → N H3) → g (gx x) σ0 H' (kWp vs σ0 t te Y N))
    (hd : ∀ D H', Own H' (pt D (.lst ((xs.filter pp).map f)) :: F) → Q (.ref D) H') : kLc g t te vs σ Q (Itl K a) H := by
  refine comp_list (xs := xs.map gx) σ0 (by rw [List.length_map]; exact hn) hw (fun i acc => pu (acc = ((xs.take i).filter pp).map f) :: F) (own_put rfl z) (fun i acc H' w => hl H' w.tail) ?_ ?_
  · intro i x acc G H' Y N hi hl w hY hN
    rw [List.getElem?_map] at hi
    cases e : xs[i]? with
    | none => rw [e] at hi; cases hi
    | some y =>
      rw [e] at hi
      cases hi
      have hy : y ∈ xs := List.mem_of_getElem? e
      obtain ⟨e1, w⟩ := own_pu (own_p1 w)
      have e2 : xs.take (i + 1) = xs.take i ++ [y] := by rw [List.take_succ, e] <;> rfl
      refine hs y G H' Y N hy w (fun hp H4 w4 => hY _ _ (own_p1 (own_put ?_ w4))) (fun hp H3 w3 => hN _ (own_p1 (own_put ?_ w3)))
      · rw [e1, e2, List.filter_append, List.map_append]
        show _ = _ ++ (List.filter pp [y]).map f
        rw [List.filter_cons_of_pos hp] <;> rfl
      · rw [e1, e2, List.filter_append, List.map_append]
        show _ = _ ++ (List.filter pp [y]).map f
        rw [List.filter_cons_of_neg (by rw [hp]; exact Bool.false_ne_true)]
        show _ = _ ++ []
        rw [List.append_nil]
  · intro acc D H' hl w
    obtain ⟨e, w⟩ := own_pu (own_p1 w)
    rw [e, List.length_map, List.take_length] at w
    exact hd D H' w
/-- for x in a list of one kind that stands still -/
theorem loop_listM {q : Nat} {ts : TS} {a1 a3 a4 : L2.St → Hp → Prop} {a2 : VK} (xs : List α) (gx : α → V) (W : Nat → L2.St → Hp → Prop) (h0 : W 0 σ H) (hl : ∀ i σ' H', W i σ' H' → SqL K H' a (xs.map gx))
    (hs : ∀ (i : Nat) x σ' H', xs[i]? = some x → W i σ' H' → kSet q σ' (ts ⟨W (i + 1), a2, a1, W (i + 1)⟩) (gx x) H') (hd : ∀ σ' H', W xs.length σ' H' → a1 σ' H') : kFor (gName q) ts ⟨a1, a2, a3, a4⟩ σ (Itl K a) H :=
  loop_listS (xs := xs.map gx) W h0 hl (fun i x σ' H' hi w => by
    rw [List.getElem?_map] at hi
    cases e : xs[i]? with
    | none => rw [e] at hi; cases hi
    | some y =>
      rw [e] at hi
      cases hi
      exact hs i y σ' H' e w) (fun σ' H' w => hd σ' H' (by rw [List.length_map] at w; exact w))
end
abbrev De (Q : VK) : Ends := ⟨fun _ H' => Q .non H', Q, fun _ _ => False, fun _ _ => False⟩
theorem bl_true {Q : VK} {b : Bool} {H : Hp} (e : b = true) (k : Q (.bl true) H) : Q (.bl b) H := by
  rw [e]
  exact k
theorem bl_false {Q : VK} {b : Bool} {H : Hp} (e : b = false) (k : Q (.bl false) H) : Q (.bl b) H := by
  rw [e]
  exact k
/-- a list display of numbers -/
class Il (ys : List V) (xs : outParam (List Int)) : Prop where
  h : ys = xs.map V.int
instance : Il [] [] := ⟨rfl⟩
instance {n : Int} {ys : List V} {xs : List Int} [i : Il ys xs] : Il (.int n :: ys) (n :: xs) := ⟨by rw [i.h] <;> rfl⟩
instance {xs : List Int} : Il (xs.map V.int) xs := ⟨rfl⟩
end SL
end

section
set_option Elab.async false
set_option linter.all false
set_option maxRecDepth 100000
/-! ## SL7: dicts by numbers -/
namespace SL
open PySem PySem.Spec L2
section
variable {K : PySem.W.Frag} {td ty tx tv : TE} {σ : L2.St} {H : Hp} {F : List Atom} {Q : VK} {P : L2.St → Hp → Prop} {x y z v : V} {a : Addr} {G' : Prop} {a1 a3 a4 : L2.St → Hp → Prop} {a2 : VK}
def kDG2 (x : V) (Q : VK) : VK := fun y H2 => ∃ a v, x = .ref a ∧ DGet H2 a y (some v) ∧ Q v H2
def kDG1 (ty : TE) (σ : L2.St) (Q : VK) : VK := fun x H1 => ty σ H1 (kDG2 x Q)
def kD23 (a : Addr) (y : V) (Q : VK) : VK := fun z H3 => ∃ o, DGet H3 a y o ∧ Q (o.getD z) H3
def kD22 (a : Addr) (tx : TE) (σ : L2.St) (Q : VK) : VK := fun y H2 => tx σ H2 (kD23 a y Q)
def kD21 (ty tx : TE) (σ : L2.St) (Q : VK) : VK := fun x H1 => ∃ a, x = .ref a ∧ IsD H1 a ∧ ty σ H1 (kD22 a tx σ Q)
def kDP3 (v x : V) (σ : L2.St) (P : L2.St → Hp → Prop) : VK := fun y H3 => ∃ a H4, x = .ref a ∧ DPut H3 a y v H4 ∧ P σ H4
def kDP2 (v : V) (ty : TE) (σ : L2.St) (P : L2.St → Hp → Prop) : VK := fun x H2 => ty σ H2 (kDP3 v x σ P)
def kDP1 (td ty : TE) (σ : L2.St) (P : L2.St → Hp → Prop) : VK := fun v H1 => td σ H1 (kDP2 v ty σ P)
instance [q : Rd (td σ H (kDG1 ty σ Q)) G'] : Rd1 (tDGet td ty σ H Q) G' := ⟨fun z => q.h z⟩
instance [q : Rd (ty σ H (kDG2 x Q)) G'] : Rd1 (kDG1 ty σ Q x H) G' := ⟨fun z => q.h z⟩
instance [q : Rd (td σ H (kD21 ty tx σ Q)) G'] : Rd1 (tDGet2 td ty tx σ H Q) G' := ⟨fun z => q.h z⟩
instance [q : Rd (tx σ H (kD23 a y Q)) G'] : Rd1 (kD22 a tx σ Q y H) G' := ⟨fun z => q.h z⟩
instance [q : Rd (tv σ H (kDP1 td ty σ a1)) G'] : Rd1 (sDPut td ty tv ⟨a1, a2, a3, a4⟩ σ H) G' := ⟨fun z => q.h z⟩
instance [q : Rd (td σ H (kDP2 v ty σ P)) G'] : Rd1 (kDP1 td ty σ P v H) G' := ⟨fun z => q.h z⟩
instance [q : Rd (ty σ H (kDP3 v x σ P)) G'] : Rd1 (kDP2 v ty σ P x H) G' := ⟨fun z => q.h z⟩
theorem hd_dg2 (k : kDG2 x Q y H) : kDG2 x Q y H := k
theorem hd_d21 (k : kD21 ty tx σ Q x H) : kD21 ty tx σ Q x H := k
theorem hd_d23 (k : kD23 a y Q z H) : kD23 a y Q z H := k
theorem hd_dp3 (k : kDP3 v x σ P y H) : kDP3 v x σ P y H := k
/-- a dict from numbers (0 to 999) to numbers -/
structure diA (a : Addr) (f : Int → Option Int) (h : Hp) : Prop where
  e : ∃ kvs : List (Key × V), pt a (.dK kvs) h ∧ (∀ i, valV kvs (.inl i) = (f i).map V.int) ∧ (kvs.map (·.1)).Nodup ∧ ∀ q ∈ kvs, ∃ j : Nat, j < 1000 ∧ q.1 = .inl (j : Int)
theorem nodup_len : ∀ (n : Nat) (l : List Nat), l.Nodup → (∀ x ∈ l, x < n) → l.length ≤ n
  | 0, [], _, _ => Nat.le_refl _
  | 0, x :: l, _, h => absurd (h x (List.mem_cons_self ..)) (Nat.not_lt_zero _)
  | n + 1, l, nd, h => by
    have e := nodup_len n (l.erase n) (nd.erase n) fun x hx => by
      have m := (List.Nodup.mem_erase_iff nd).mp hx
      have := h x m.2
      have := m.1
      omega
    have := List.length_erase (a := n) (l := l)
    split at this <;> omega
theorem nodup_pull {α β : Type} (f : α → β) : ∀ (l : List α), (l.map f).Nodup → l.Nodup
  | [], _ => List.nodup_nil
  | a :: l, h => by
    rw [List.map_cons, List.nodup_cons] at h
    exact List.nodup_cons.mpr ⟨fun m => h.1 (List.mem_map_of_mem m), nodup_pull f l h.2⟩
theorem di_len {kvs : List (Key × V)} (h1 : (kvs.map (·.1)).Nodup) (h2 : ∀ q ∈ kvs, ∃ j : Nat, j < 1000 ∧ q.1 = .inl (j : Int)) : kvs.length ≤ 1000 := by
  let g : Key → Nat := fun k => match k with
    | .inl i => i.toNat
    | .inr _ => 0
  have e : kvs.map (·.1) = (kvs.map fun q => g q.1).map fun (j : Nat) => (Sum.inl (j : Int) : Key) := by
    rw [List.map_map]
    refine List.map_congr_left fun q hq => ?_
    obtain ⟨j, _, e⟩ := h2 q hq
    show q.1 = Sum.inl ((g q.1 : Nat) : Int)
    rw [e] <;> rfl
  have nd : (kvs.map fun q => g q.1).Nodup := by
    rw [e] at h1
    exact nodup_pull _ _ h1
  have := nodup_len 1000 _ nd fun x hx => by
    obtain ⟨q, hq, rfl⟩ := List.mem_map.mp hx
    obtain ⟨j, hj, e⟩ := h2 q hq
    show g q.1 < 1000
    rw [e]
    exact hj
  rw [List.length_map] at this
  exact this
theorem di_pt {f : Int → Option Int} (w : Own H (diA a f :: F)) : ∃ kvs : List (Key × V), Own H (pt a (.dK kvs) :: F) ∧ (∀ i, valV kvs (.inl i) = (f i).map V.int) ∧ (kvs.map (·.1)).Nodup ∧ ∀ q ∈ kvs, ∃ j : Nat, j < 1000 ∧ q.1 = .inl (j : Int) := by
  obtain ⟨kvs, y⟩ := own_ex (w.mono1 fun _ q => q.e)
  obtain ⟨h, ⟨_, c⟩, _⟩ := y.at1
  exact ⟨kvs, y.mono1 fun _ q => q.1, c⟩
theorem g_dgetF {f : Int → Option Int} {i j : Int} (w : Own H (diA a f :: F)) (e : f i = some j) (k : Q (.int j) H) : kDG2 (.ref a) Q (.int i) H := by
  obtain ⟨kvs, w2, h1, _, _⟩ := di_pt w
  refine ⟨a, .int j, rfl, ?_, k⟩
  have q := DGet.k (k := Sum.inl i) (own_pt w2)
  rw [h1, e] at q
  exact q
theorem g_d21F {f : Int → Option Int} (w : Own H (diA a f :: F)) (k : ty σ H (kD22 a tx σ Q)) : kD21 ty tx σ Q (.ref a) H := by
  obtain ⟨kvs, w2, _⟩ := di_pt w
  exact ⟨a, rfl, .inl ⟨kvs, .inl (own_pt w2)⟩, k⟩
theorem g_d23F {f : Int → Option Int} {i j : Int} (w : Own H (diA a f :: F)) (k : Q (.int ((f i).getD j)) H) : kD23 a (.int i) Q (.int j) H := by
  obtain ⟨kvs, w2, h1, _, _⟩ := di_pt w
  refine ⟨valV kvs (.inl i), DGet.k (k := Sum.inl i) (own_pt w2), ?_⟩
  rw [h1]
  have q : ∀ o : Option Int, Q (.int (o.getD j)) H → Q ((o.map V.int).getD (.int j)) H := fun o h => by cases o <;> exact h
  exact q _ k
theorem keys_putK (kvs : List (Key × V)) (k : Key) (v : V) (h : (kvs.map (·.1)).Nodup) : ((putK kvs k v).map (·.1)).Nodup ∧ ∀ q ∈ putK kvs k v, q.1 = k ∨ ∃ p ∈ kvs, p.1 = q.1 := by
  unfold putK
  split
  · have e : (kvs.map fun kv => if kv.1 = k then (kv.1, v) else kv).map (·.1) = kvs.map (·.1) := by
      rw [List.map_map]
      refine List.map_congr_left fun q _ => ?_
      show (if q.1 = k then (q.1, v) else q).1 = q.1
      split <;> rfl
    refine ⟨by rw [e]; exact h, fun q hq => ?_⟩
    obtain ⟨p, hp, rfl⟩ := List.mem_map.mp hq
    exact .inr ⟨p, hp, by split <;> rfl⟩
  · rename_i hn
    refine ⟨?_, fun q hq => ?_⟩
    · rw [List.map_append]
      refine List.nodup_append.mpr ⟨h, by simp, fun a ha b hb e => ?_⟩
      obtain ⟨p, hp, rfl⟩ := List.mem_map.mp ha
      have : b = k := by simpa using hb
      refine hn (List.any_eq_true.mpr ⟨p, hp, ?_⟩)
      rw [decide_eq_true_eq, e, this]
    · rcases List.mem_append.mp hq with m | m
      · exact .inr ⟨q, m, rfl⟩
      · exact .inl (by rw [List.mem_singleton.mp m])
theorem g_dputF {f : Int → Option Int} {i j : Int} (w : Own H (diA a f :: F)) (h : 0 ≤ i ∧ i < 1000) (k : ∀ H1, Own H1 (diA a (fun n => if n = i then some j else f n) :: F) → P σ H1) : kDP3 (.int j) (.ref a) σ P (.int i) H := by
  obtain ⟨kvs, w2, h1, h2, h3⟩ := di_pt w
  have l := di_len h2 h3
  obtain ⟨k1, k2⟩ := keys_putK kvs (.inl i) (.int j) h2
  refine ⟨a, _, rfl, DPut.k (k := Sum.inl i) (own_pt w2) (size_of (by omega)), k _ ?_⟩
  refine (own_set w2 rfl).mono1 fun _ q => ⟨⟨_, q, fun n => ?_, k1, fun q hq => ?_⟩⟩
  · rw [valV_put, h1]
    by_cases e : n = i
    · rw [if_pos (by rw [e]), if_pos e] <;> rfl
    · rw [if_neg (fun z => e (Sum.inl.inj z)), if_neg e]
  · rcases k2 q hq with e | ⟨p, hp, e⟩
    · exact ⟨i.toNat, by omega, by rw [e, Int.toNat_of_nonneg h.1]⟩
    · rw [← e]
      exact h3 p hp
theorem g_dputE {f : Int → Option Int} {i j z : Int} (w : Own H (diA a f :: F)) (h : f i = some z) (k : ∀ H1, Own H1 (diA a (fun n => if n = i then some j else f n) :: F) → P σ H1) : kDP3 (.int j) (.ref a) σ P (.int i) H := by
  obtain ⟨kvs, w2, h1, h2, h3⟩ := di_pt w
  have b : 0 ≤ i ∧ i < 1000 := by
    have e := h1 i
    rw [h] at e
    have m : ∃ q ∈ kvs, q.1 = Sum.inl i := by
      unfold valV at e
      cases c : kvs.find? fun kv => decide (kv.1 = Sum.inl i) with
      | none => rw [c] at e; cases e
      | some q => exact ⟨q, List.mem_of_find?_eq_some c, by simpa using List.find?_some c⟩
    obtain ⟨q, hq, e2⟩ := m
    obtain ⟨n, hn, e3⟩ := h3 q hq
    have := Sum.inl.inj (e2.symm.trans e3)
    omega
  exact g_dputF w b k
theorem g_dnew (w : Own H F) (k : ∀ p H1, Own H1 (diA p (fun _ => none) :: F) → Q (.ref p) H1) : tDNewK σ H Q := fun p hp => k p _ ((own_new w hp).mono1 fun _ q => ⟨⟨[], q, fun _ => rfl, List.nodup_nil, fun _ h => nomatch h⟩⟩)
theorem hd_dnew (k : tDNewK σ H Q) : tDNewK σ H Q := k
end
end SL
end

section
set_option Elab.async false
set_option linter.all false
set_option maxRecDepth 100000
/-! ## SL8: sum, all, max, min; is not True -/
namespace SL
open PySem PySem.Spec L2
section
variable {K : PySem.W.Frag} {H : Hp} {F : List Atom} {Q : VK} {a : Addr} {G' : Prop} {b c : Bool}
def rNotBl : R2 := fun x y H Q => ∃ a b : Bool, x = .bl a ∧ y = .bl b ∧ Q (.bl (!decide (a = b))) H
theorem op_notBlI {X : Cx} : OpR X (compareOp .IsNot) rNotBl := op_notBl
instance [q : Rd (Q (.bl (!decide (b = c))) H) G'] : Rd1 (rNotBl (.bl b) (.bl c) H Q) G' := ⟨fun z => ⟨b, c, rfl, rfl, q.h z⟩⟩
theorem hd_sum {vs : List V} (k : rSum K vs H Q) : rSum K vs H Q := k
theorem hd_all {vs : List V} (k : rAll K vs H Q) : rAll K vs H Q := k
theorem hd_max {vs : List V} (k : rMax K vs H Q) : rMax K vs H Q := k
theorem hd_min {vs : List V} (k : rMin K vs H Q) : rMin K vs H Q := k
theorem g_sumI {xs : List Int} (h : H a = some (.lst (xs.map V.int))) (k : Q (.int xs.sum) H) : rSum K [.ref a] H Q := ⟨a, xs, rfl, SqL.of h, k⟩
theorem g_allB {xs : List Bool} (h : H a = some (.lst (xs.map V.bl))) (k : Q (.bl (xs.all id)) H) : rAll K [.ref a] H Q := ⟨a, xs, rfl, SqL.of h, k⟩
theorem g_maxI {xs : List Int} (h : H a = some (.lst (xs.map V.int))) (l : 0 < xs.length) (k : ∀ m, (m ∈ xs ∧ ∀ y, y ∈ xs → y ≤ m) → Q (.int m) H) : rMax K [.ref a] H Q := ⟨a, xs, rfl, SqL.of h, l, fun m h1 h2 => k m ⟨h1, h2⟩⟩
theorem g_minI {xs : List Int} (h : H a = some (.lst (xs.map V.int))) (l : 0 < xs.length) (k : ∀ m, (m ∈ xs ∧ ∀ y, y ∈ xs → m ≤ y) → Q (.int m) H) : rMin K [.ref a] H Q := ⟨a, xs, rfl, SqL.of h, l, fun m h1 h2 => k m ⟨h1, h2⟩⟩
theorem at0_mem {α : Type} [Inhabited α] {xs : List α} {i : Int} (h : 0 ≤ i ∧ i < xs.length) : at0 xs i ∈ xs := by
  have b : i.toNat < xs.length := by omega
  show xs.getD i.toNat default ∈ xs
  rw [List.getD_eq_getElem?_getD, List.getElem?_eq_getElem b]
  exact List.getElem_mem b
theorem g_ixIl {ys : List V} {xs : List Int} {i : Int} (h : H a = some (.lst ys)) [l : Il ys xs] (e : 0 ≤ i ∧ i < xs.length) (k : ∀ v, v ∈ xs → Q (.int v) H) : rIxL K (.ref a) (.int i) H Q := by
  have e1 := l.h
  subst e1
  exact g_ixLM h e (k _ (at0_mem e))
theorem filter_tt {α : Type} (l : List α) : (l.filter fun _ => true) = l := List.filter_eq_self.mpr fun _ _ => rfl
theorem nodup_filter {α : Type} {p : α → Bool} {l : List α} (h : l.Nodup) : (l.filter p).Nodup := h.sublist (List.filter_sublist ..)
/-- a statement behind which ways join: what holds there is told once -/
def tSeqM (t u : TS) : TS := tSeq t u
theorem g_join {tt uu : TS} {a1 a3 a4 : L2.St → Hp → Prop} {a2 : VK} {σ : L2.St} (Mid : L2.St → Hp → Prop) (h1 : ∀ NX : L2.St → Hp → Prop, (∀ σ' H', Mid σ' H' → NX σ' H') → tt ⟨NX, a2, a3, a4⟩ σ H) (h2 : ∀ σ' H', Mid σ' H' → uu ⟨a1, a2, a3, a4⟩ σ' H') : tSeqM tt uu ⟨a1, a2, a3, a4⟩ σ H := h1 _ h2
theorem g_thru {tt uu : TS} {a1 a3 a4 : L2.St → Hp → Prop} {a2 : VK} {σ : L2.St} (k : tt ⟨uu ⟨a1, a2, a3, a4⟩, a2, a3, a4⟩ σ H) : tSeqM tt uu ⟨a1, a2, a3, a4⟩ σ H := k
end
end SL
end

section
set_option Elab.async false
set_option linter.all false
set_option maxRecDepth 100000
/-! ## SL9: the last item, items (bytes, marks of lost bytes), lists told item by item -/
namespace SL
open PySem PySem.Spec L2
section
variable {K : PySem.W.Frag} {H : Hp} {F : List Atom} {Q : VK} {a : Addr} {α : Type} {P : L2.St → Hp → Prop} {σ : L2.St} {y v : V} {vs : List V}
theorem ixN_last {n : Nat} : ixN (n + 1) (-1) = some n := by
  unfold ixN
  simp
  omega
theorem atI_last {xs : List α} {x : α} : atI (xs ++ [x]) (-1) = some x := by
  unfold atI
  rw [show (xs ++ [x]).length = xs.length + 1 by simp, ixN_last]
  simp
theorem set_last {xs : List α} {x z : α} : (xs ++ [x]).set xs.length z = xs ++ [z] := by
  induction xs with
  | nil => rfl
  | cons a xs ih => exact congrArg (a :: ·) ih
theorem g_setLast (w : Own H (pt a (.lst (vs ++ [v])) :: F)) (k : ∀ H1, Own H1 (pt a (.lst (vs ++ [y])) :: F) → P σ H1) : kSu2 y rSetL (.ref a) σ P (.int (-1)) H :=
  g_setL (j := vs.length) w (by rw [show (vs ++ [v]).length = vs.length + 1 by simp]; exact ixN_last) fun H1 q => k H1 (by rw [set_last] at q; exact q)
theorem g_ixLast (h : H a = some (.lst (vs ++ [v]))) (k : Q v H) : rIxL K (.ref a) (.int (-1)) H Q := g_ixL h atI_last k
inductive Al2 {α β : Type} (R : α → β → Prop) : List α → List β → Prop where
  | nil : Al2 R [] []
  | cons {x y xs ys} : R x y → Al2 R xs ys → Al2 R (x :: xs) (y :: ys)
end
section
variable {α β : Type} {R S : α → β → Prop} {xs xs2 : List α} {ys ys2 : List β} {x : α} {y : β}
theorem Al2.len : Al2 R xs ys → xs.length = ys.length := by
  intro h
  induction h with
  | nil => rfl
  | cons _ _ ih => simp [ih]
theorem Al2.imp (f : ∀ x y, R x y → S x y) : Al2 R xs ys → Al2 S xs ys := by
  intro h
  induction h with
  | nil => exact .nil
  | cons a _ ih => exact .cons (f _ _ a) ih
theorem Al2.append (h : Al2 R xs ys) (g : Al2 R xs2 ys2) : Al2 R (xs ++ xs2) (ys ++ ys2) := by
  induction h with
  | nil => exact g
  | cons a _ ih => exact .cons a ih
theorem Al2.snoc (h : Al2 R xs ys) (g : R x y) : Al2 R (xs ++ [x]) (ys ++ [y]) := h.append (.cons g .nil)
theorem Al2.get {i : Nat} (h : Al2 R xs ys) (e : ys[i]? = some y) : ∃ x, xs[i]? = some x ∧ R x y := by
  induction h generalizing i with
  | nil => cases e
  | cons a _ ih =>
    cases i with
    | zero => cases e; exact ⟨_, rfl, a⟩
    | succ i => exact ih e
theorem Al2.getL {i : Nat} (h : Al2 R xs ys) (e : xs[i]? = some x) : ∃ y, ys[i]? = some y ∧ R x y := by
  induction h generalizing i with
  | nil => cases e
  | cons a _ ih =>
    cases i with
    | zero => cases e; exact ⟨_, rfl, a⟩
    | succ i => exact ih e
theorem Al2.inv_cons (h : Al2 R xs (y :: ys)) : ∃ x xs2, xs = x :: xs2 ∧ R x y ∧ Al2 R xs2 ys := by
  cases h with
  | cons a b => exact ⟨_, _, rfl, a, b⟩
theorem Al2.inv_snoc (h : Al2 R xs (ys ++ [y])) : ∃ xs2 x, xs = xs2 ++ [x] ∧ Al2 R xs2 ys ∧ R x y := by
  induction ys generalizing xs with
  | nil =>
    obtain ⟨x, xs2, rfl, a, b⟩ := Al2.inv_cons h
    cases b
    exact ⟨[], x, rfl, .nil, a⟩
  | cons z ys ih =>
    obtain ⟨x, xs2, rfl, a, b⟩ := Al2.inv_cons h
    obtain ⟨xs3, u, rfl, c, d⟩ := ih b
    exact ⟨x :: xs3, u, rfl, .cons a c, d⟩
theorem Al2.inv_append (h : Al2 R xs (ys ++ ys2)) : ∃ a b, xs = a ++ b ∧ Al2 R a ys ∧ Al2 R b ys2 := by
  induction ys generalizing xs with
  | nil => exact ⟨[], xs, rfl, .nil, h⟩
  | cons z ys ih =>
    obtain ⟨x, xs2, rfl, a, b⟩ := Al2.inv_cons h
    obtain ⟨c, d, rfl, e, f⟩ := ih b
    exact ⟨x :: c, d, rfl, .cons a e, f⟩
theorem Al2.take (h : Al2 R xs ys) (n : Nat) : Al2 R (xs.take n) (ys.take n) := by
  induction h generalizing n with
  | nil => simp; exact .nil
  | cons a _ ih =>
    cases n with
    | zero => exact .nil
    | succ n => exact .cons a (ih n)
theorem Al2.drop (h : Al2 R xs ys) (n : Nat) : Al2 R (xs.drop n) (ys.drop n) := by
  induction h generalizing n with
  | nil => simp; exact .nil
  | cons a b ih =>
    cases n with
    | zero => exact .cons a b
    | succ n => exact ih n
end
/-- a list of values, told one by one -/
structure alA {β : Type} (S : V → β → Atom) (vs : List V) (xs : List β) (h : Hp) : Prop where
  e : Al2 (fun v x => S v x h) vs xs
theorem pst_al {β : Type} {S : V → β → Atom} (p : ∀ v x, Pst (S v x)) {vs : List V} {xs : List β} : Pst (alA S vs xs) := fun h H m ⟨e⟩ => ⟨e.imp fun v x q => p v x h H m q⟩
section
variable {K : PySem.W.Frag} {H : Hp} {F : List Atom} {Q : VK} {a : Addr} {σ : L2.St} {ns : List Nat} {t : TT} {te : TE} {β γ : Type}
theorem comp_listA {g : TG} {vs : List V} (xs : List β) (R : V → β → Atom) (S : V → γ → Atom) (pR : ∀ v x, Pst (R v x)) (pS : ∀ v x, Pst (S v x)) (pp : β → Bool) (f : β → γ) (σ0 : L2.St) (hn : xs.length ≤ 1000000) (hw : wipe σ ns = σ0) (z : Own H F) (hR : alA R vs xs H) (hl : ∀ H', Own H' F → SqL K H' a vs)
    (hs : ∀ (v : V) (x : β) (G : Atom) H' (Y : VK) (N : Hp → Prop), x ∈ xs → R v x H' → Own H' (G :: F) → (pp x = true → ∀ y H4, Own H4 (S y (f x) :: G :: F) → Y y H4) → (pp x = false → ∀ H3, Own H3 (G :: F) → N H3) → g v σ0 H' (kWp ns σ0 t te Y N))
    (hd : ∀ acc D H', Own H' (pt D (.lst acc) :: alA S acc ((xs.filter pp).map f) :: F) → Q (.ref D) H') : kLc g t te ns σ Q (Itl K a) H := by
  have hlen := hR.e.len
  refine comp_list (xs := vs) σ0 (by omega) hw (fun i acc => alA R vs xs :: alA S acc (((xs.take i).filter pp).map f) :: F) (per_own hR (pst_al pR) (per_own ⟨.nil⟩ (pst_al pS) z)) (fun i acc H' w => hl H' w.tail.tail) ?_ ?_
  · intro i v acc G H' Y N hi _ w hY hN
    have hR' := own_per (own_p1 w) (pst_al pR)
    have hS' := own_per (own_p2 w) (pst_al pS)
    obtain ⟨x, hx, hr⟩ := hR'.e.getL hi
    have hm : x ∈ xs := List.mem_of_getElem? hx
    have e2 : xs.take (i + 1) = xs.take i ++ [x] := by rw [List.take_succ, hx] <;> rfl
    have w2 : Own H' (al [G, alA R vs xs, alA S acc (((xs.take i).filter pp).map f)] :: F) := own_out (cs := [G, alA R vs xs, alA S acc (((xs.take i).filter pp).map f)]) w
    have put : ∀ H4 acc2, alA S acc2 (((xs.take (i + 1)).filter pp).map f) H4 → Own H4 (al [G, alA R vs xs, alA S acc (((xs.take i).filter pp).map f)] :: F) → Own H4 (G :: alA R vs xs :: alA S acc2 (((xs.take (i + 1)).filter pp).map f) :: F) := fun H4 acc2 q w4 =>
      Own.cons_mono (own_p2 (own_p2 (per_own q (pst_al pS) (own_in w4)))) fun _ z => Own.cons_mono z fun _ z => Own.cons_mono z fun _ z => z.tail
    refine hs v x _ H' Y N hm hr w2 (fun hp y H4 w4 => hY _ _ ?_) (fun hp H3 w3 => hN _ ?_)
    · have g1 := own_per w4 (pS y (f x))
      have g2 := own_per (own_p2 (own_in w4.tail)) (pst_al pS)
      refine put H4 _ ⟨?_⟩ w4.tail
      rw [e2, List.filter_append, List.map_append]
      show Al2 _ _ (_ ++ (List.filter pp [x]).map f)
      rw [List.filter_cons_of_pos hp]
      exact g2.e.snoc g1
    · have g2 := own_per (own_p2 (own_in w3)) (pst_al pS)
      refine put H3 _ ⟨?_⟩ w3
      rw [e2, List.filter_append, List.map_append]
      show Al2 _ _ (_ ++ (List.filter pp [x]).map f)
      rw [List.filter_cons_of_neg (by rw [hp]; exact Bool.false_ne_true)]
      show Al2 _ _ (_ ++ [])
      rw [List.append_nil]
      exact g2.e
  · intro acc D H' _ w
    rw [hlen, List.take_length] at w
    exact hd acc D H' (Own.cons_mono w fun _ z => z.tail)
end
/-- an item: a byte, or a mark of lost bytes -/
inductive Itm where
  | b (n : Int)
  | lost (n : Int)
  deriving DecidableEq
instance : Inhabited Itm := ⟨.b 0⟩
def Itm.byte : Itm → Bool
  | .b _ => true
  | .lost _ => false
def nb (xs : List Itm) : Nat := xs.countP Itm.byte
structure itA (w : V) (x : Itm) (h : Hp) : Prop where
  e : match x with
    | .b n => w = .int n
    | .lost n => ∃ q, w = .ref q ∧ h q = some (.tup [.str "lost", .int n])
structure rowA (v : V) (x : Itm × Int) (h : Hp) : Prop where
  e : ∃ r w, v = .ref r ∧ h r = some (.tup [w, .int x.2]) ∧ itA w x.1 h
abbrev itsA := alA itA
abbrev rowsA := alA rowA
theorem pst_it {w : V} {x : Itm} : Pst (itA w x) := fun h H m ⟨e⟩ => ⟨by
  cases x with
  | b n => exact e
  | lost n =>
    obtain ⟨q, e1, e2⟩ := e
    exact ⟨q, e1, m q _ rfl e2⟩⟩
theorem pst_row {w : V} {x : Itm × Int} : Pst (rowA w x) := fun h H m ⟨r, v, e1, e2, e3⟩ => ⟨r, v, e1, m r _ rfl e2, pst_it h H m e3⟩
theorem pst_its {vs : List V} {xs : List Itm} : Pst (itsA vs xs) := pst_al fun _ _ => pst_it
theorem pst_rows {vs : List V} {xs : List (Itm × Int)} : Pst (rowsA vs xs) := pst_al fun _ _ => pst_row
theorem it_b {n : Int} {h : Hp} : itA (.int n) (.b n) h := ⟨rfl⟩
theorem it_lost {n : Int} {q : Addr} {h : Hp} (e : h q = some (.tup [.str "lost", .int n])) : itA (.ref q) (.lost n) h := ⟨q, rfl, e⟩
theorem bl_of {Q : VK} {b c : Bool} {H : Hp} (e : b = c) (k : Q (.bl b) H) : Q (.bl c) H := by
  rw [← e]
  exact k
end SL
end

section
set_option Elab.async false
set_option linter.all false
set_option maxRecDepth 100000
/-! ## SL10: many things of one kind, each at its address -/
namespace SL
open PySem PySem.Spec L2
section
variable {α : Type} {S : Addr → α → Atom} {r : Addr} {rs rs2 : List Addr} {x : α} {xs xs2 : List α} {F : List Atom} {H : Hp}
structure bgA {α : Type} (S : Addr → α → Atom) (rs : List Addr) (xs : List α) (h : Hp) : Prop where
  e : al (List.zipWith S rs xs) h
  l : rs.length = xs.length
theorem own_drop {P : Atom} (x : Own H (P :: F)) : Own H F := x.tail
theorem bg_len (w : Own H (bgA S rs xs :: F)) : rs.length = xs.length := by
  obtain ⟨h, q, _⟩ := w.at1
  exact q.l
theorem bg_nil (w : Own H F) : Own H (bgA S [] [] :: F) := (own_out (cs := []) w).mono1 fun _ q => ⟨q, rfl⟩
theorem bg_to (w : Own H (bgA S rs xs :: F)) : Own H (List.zipWith S rs xs ++ F) := own_in (w.mono1 fun _ q => q.e)
theorem bg_fr (l : rs.length = xs.length) (w : Own H (List.zipWith S rs xs ++ F)) : Own H (bgA S rs xs :: F) := (own_out w).mono1 fun _ q => ⟨q, l⟩
theorem bg_cons (w : Own H (S r x :: bgA S rs xs :: F)) : Own H (bgA S (r :: rs) (x :: xs) :: F) :=
  bg_fr (by rw [List.length_cons, List.length_cons, bg_len (own_p1 w)]) (Own.cons_mono w fun _ z => bg_to z)
theorem bg_uncons (w : Own H (bgA S (r :: rs) (x :: xs) :: F)) : Own H (S r x :: bgA S rs xs :: F) := by
  have l := bg_len w
  rw [List.length_cons, List.length_cons] at l
  exact Own.cons_mono (bg_to w) fun _ z => bg_fr (Nat.succ.inj l) z
theorem bg_app : ∀ {rs : List Addr} {xs : List α} {H : Hp}, Own H (bgA S rs xs :: bgA S rs2 xs2 :: F) → Own H (bgA S (rs ++ rs2) (xs ++ xs2) :: F)
  | [], [], _, w => w.tail
  | [], _ :: _, _, w => nomatch bg_len w
  | _ :: _, [], _, w => nomatch bg_len w
  | _ :: _, _ :: _, _, w => bg_cons (Own.cons_mono (bg_uncons w) fun _ z => bg_app z)
theorem bg_split : ∀ {rs : List Addr} {xs : List α} {H : Hp}, rs.length = xs.length → Own H (bgA S (rs ++ rs2) (xs ++ xs2) :: F) → Own H (bgA S rs xs :: bgA S rs2 xs2 :: F)
  | [], [], _, _, w => bg_nil w
  | [], _ :: _, _, l, _ => nomatch l
  | _ :: _, [], _, l, _ => nomatch l
  | _ :: _, _ :: _, _, l, w => bg_cons (Own.cons_mono (bg_uncons w) fun _ z => bg_split (Nat.succ.inj l) z)
theorem bg_one (w : Own H (S r x :: F)) : Own H (bgA S [r] [x] :: F) := bg_cons (Own.cons_mono w fun _ z => bg_nil z)
theorem bg_snoc (w : Own H (S r x :: bgA S rs xs :: F)) : Own H (bgA S (rs ++ [r]) (xs ++ [x]) :: F) := bg_app (own_p1 (bg_one w))
theorem bg_unsnoc (w : Own H (bgA S (rs ++ [r]) (xs ++ [x]) :: F)) : Own H (S r x :: bgA S rs xs :: F) := by
  have l := bg_len w
  rw [List.length_append, List.length_append] at l
  have l2 : rs.length = xs.length := by simpa using l
  exact Own.cons_mono (bg_uncons (own_p1 (bg_split l2 w))) fun _ z => z.tail
theorem bg_unfocus {rs1 : List Addr} {xs1 : List α} (w : Own H (S r x :: bgA S rs1 xs1 :: bgA S rs2 xs2 :: F)) : Own H (bgA S (rs1 ++ r :: rs2) (xs1 ++ x :: xs2) :: F) :=
  bg_app (own_p1 (bg_cons (own_p1 (own_p2 w))))
theorem split_at {β : Type} {xs : List β} {x : β} {i : Nat} (h : xs[i]? = some x) : xs = xs.take i ++ x :: xs.drop (i + 1) := by
  obtain ⟨hlt, he⟩ := List.getElem?_eq_some_iff.mp h
  rw [← he, ← List.drop_eq_getElem_cons hlt, List.take_append_drop]
theorem bg_focus {i : Nat} (w : Own H (bgA S rs xs :: F)) (h : xs[i]? = some x) : ∃ r, rs[i]? = some r ∧ Own H (S r x :: bgA S (rs.take i) (xs.take i) :: bgA S (rs.drop (i + 1)) (xs.drop (i + 1)) :: F) := by
  have l := bg_len w
  obtain ⟨hlt, he⟩ := List.getElem?_eq_some_iff.mp h
  have h2 : rs[i]? = some rs[i] := List.getElem?_eq_getElem (by omega)
  refine ⟨rs[i], h2, ?_⟩
  rw [split_at h, split_at h2] at w
  have w2 := bg_split (by rw [List.length_take, List.length_take]; omega) w
  exact bg_uncons (own_p1 w2) |> fun z => Own.cons_mono z fun _ z => z.swap
theorem bg_refocus {i : Nat} {y : α} (hr : rs[i]? = some r) (hx : i < xs.length) (w : Own H (S r y :: bgA S (rs.take i) (xs.take i) :: bgA S (rs.drop (i + 1)) (xs.drop (i + 1)) :: F)) : Own H (bgA S rs (xs.set i y) :: F) := by
  have e1 := split_at hr
  have e2 : xs.set i y = xs.take i ++ y :: xs.drop (i + 1) := List.set_eq_take_append_cons_drop .. |>.trans (if_pos hx)
  rw [e2]
  conv =>
    arg 2
    arg 1
    arg 2
    rw [e1]
  exact bg_unfocus w
/-- what the thing at i tells, the heap as it is -/
theorem bg_get {i : Nat} (w : Own H (bgA S rs xs :: F)) (h : xs[i]? = some x) : ∃ r, rs[i]? = some r ∧ ∃ G, Own H (S r x :: G) := by
  obtain ⟨r, h2, w2⟩ := bg_focus w h
  exact ⟨r, h2, _, w2⟩
end
end SL
end

section
set_option Elab.async false
set_option linter.all false
set_option maxRecDepth 100000
/-! ## SL11: items, pairs, texts, None as data -/
namespace SL
open PySem PySem.Spec L2
theorem lost_ok : PyData.canLay0 (.str "lost") = true := by decide +kernel
def Itm.dat : Itm → PyData
  | .b n => .int n
  | .lost n => .tuple [.str "lost", .int n]
instance : Dat Itm where
  d := Itm.dat
  n := 1
  lay := fun x => by
    cases x with
    | b n => rfl
    | lost n =>
      show (PyData.canLay0 (.str "lost") && (PyData.canLay0 (.int n) && true)) = true
      rw [lost_ok] <;> rfl
  dep := fun x => by
    cases x with
    | b n => exact Nat.zero_le _
    | lost n => exact Nat.le_refl _
  inj := fun x y h => by
    cases x with
    | b n =>
      cases y with
      | b m =>
        have h2 : (n == m) = true := h
        rw [eq_of_beq h2]
      | lost m => cases h
    | lost n =>
      cases y with
      | b m => cases h
      | lost m =>
        have h2 : (PyData.eqv (.str "lost") (.str "lost") && (PyData.eqv (.int n) (.int m) && PyData.eqvAll [] [])) = true := h
        have h3 := (Bool.and_eq_true_iff.mp (Bool.and_eq_true_iff.mp h2).2).1
        have h4 : (n == m) = true := h3
        rw [eq_of_beq h4]
section
variable {K : PySem.W.Frag} {H : Hp} {v : V} {x : Itm} {vs : List V} {xs : List Itm} {a : Addr}
theorem is_it (h : itA v x H) : Is K H v x := by
  cases x with
  | b n =>
    rw [show v = .int n from h.e]
    exact .int n
  | lost n =>
    obtain ⟨q, rfl, e⟩ := h.e
    exact .tup (SqT.of e) (.cons (.str _) (.cons (.int _) .nil))
theorem dpa_it (h : Al2 (fun v x => itA v x H) vs xs) : DpAll K H vs (xs.map Itm.dat) := by
  induction h with
  | nil => exact .nil
  | cons a _ ih => exact .cons (is_it a) ih
theorem is_its (e : H a = some (.lst vs)) (h : itsA vs xs H) : Is K H (.ref a) xs := .lst (SqL.of e) (dpa_it h.e)
end
/-- pairs -/
instance {α β : Type} [D : Dat α] [E : Dat β] : Dat (α × β) where
  d := fun x => .tuple [D.d x.1, E.d x.2]
  n := max D.n E.n + 1
  lay := fun x => by
    show ((D.d x.1).canLay0 && ((E.d x.2).canLay0 && true)) = true
    rw [D.lay, E.lay] <;> rfl
  dep := fun x => by
    show max (D.d x.1).depth (max (E.d x.2).depth 0) + 1 ≤ _
    have h1 := D.dep x.1
    have h2 := E.dep x.2
    omega
  inj := fun x y h => by
    have h2 : (PyData.eqv (D.d x.1) (D.d y.1) && (PyData.eqv (E.d x.2) (E.d y.2) && true)) = true := h
    obtain ⟨h3, h4⟩ := Bool.and_eq_true_iff.mp h2
    have e1 := D.inj _ _ h3
    have e2 := E.inj _ _ (Bool.and_eq_true_iff.mp h4).1
    exact Prod.ext e1 e2
/-- three in a tuple -/
structure Tri (α β γ : Type) where
  a : α
  b : β
  c : γ
  deriving DecidableEq
instance {α β γ : Type} [D : Dat α] [E : Dat β] [G : Dat γ] : Dat (Tri α β γ) where
  d := fun x => .tuple [D.d x.a, E.d x.b, G.d x.c]
  n := max D.n (max E.n G.n) + 1
  lay := fun x => by
    show ((D.d x.a).canLay0 && ((E.d x.b).canLay0 && ((G.d x.c).canLay0 && true))) = true
    rw [D.lay, E.lay, G.lay] <;> rfl
  dep := fun x => by
    show max (D.d x.a).depth (max (E.d x.b).depth (max (G.d x.c).depth 0)) + 1 ≤ _
    have h1 := D.dep x.a
    have h2 := E.dep x.b
    have h3 := G.dep x.c
    omega
  inj := fun x y h => by
    have h2 : (PyData.eqv (D.d x.a) (D.d y.a) && (PyData.eqv (E.d x.b) (E.d y.b) && (PyData.eqv (G.d x.c) (G.d y.c) && true))) = true := h
    obtain ⟨h3, h4⟩ := Bool.and_eq_true_iff.mp h2
    obtain ⟨h5, h6⟩ := Bool.and_eq_true_iff.mp h4
    have e1 := D.inj _ _ h3
    have e2 := E.inj _ _ h5
    have e3 := G.inj _ _ (Bool.and_eq_true_iff.mp h6).1
    cases x
    cases y
    cases e1
    cases e2
    cases e3
    rfl
/-- a list display, one item set -/
class SetI (xs : List V) (i : Int) (y : V) (zs : outParam (List V)) : Prop where
  h : ∃ j, ixN xs.length i = some j ∧ xs.set j y = zs
instance {a0 y : V} {xs : List V} : SetI (a0 :: xs) 0 y (y :: xs) := ⟨0, by rw [ixN_of ⟨by decide, by simp only [List.length_cons]; omega⟩] <;> rfl, rfl⟩
theorem atI_0c {α : Type} {a0 : α} {xs : List α} : atI (a0 :: xs) 0 = some a0 := atI_nat (j := 0) rfl
instance {a0 a1 y : V} {xs : List V} : SetI (a0 :: a1 :: xs) 1 y (a0 :: y :: xs) := ⟨1, by rw [ixN_of ⟨by decide, by simp only [List.length_cons]; omega⟩] <;> rfl, rfl⟩
theorem atI_1c {α : Type} {a0 a1 : α} {xs : List α} : atI (a0 :: a1 :: xs) 1 = some a1 := atI_nat (j := 1) rfl
instance {a0 a1 a2 y : V} {xs : List V} : SetI (a0 :: a1 :: a2 :: xs) 2 y (a0 :: a1 :: y :: xs) := ⟨2, by rw [ixN_of ⟨by decide, by simp only [List.length_cons]; omega⟩] <;> rfl, rfl⟩
theorem atI_2c {α : Type} {a0 a1 a2 : α} {xs : List α} : atI (a0 :: a1 :: a2 :: xs) 2 = some a2 := atI_nat (j := 2) rfl
instance {a0 a1 a2 a3 y : V} {xs : List V} : SetI (a0 :: a1 :: a2 :: a3 :: xs) 3 y (a0 :: a1 :: a2 :: y :: xs) := ⟨3, by rw [ixN_of ⟨by decide, by simp only [List.length_cons]; omega⟩] <;> rfl, rfl⟩
theorem atI_3c {α : Type} {a0 a1 a2 a3 : α} {xs : List α} : atI (a0 :: a1 :: a2 :: a3 :: xs) 3 = some a3 := atI_nat (j := 3) rfl
instance {a0 a1 a2 a3 a4 y : V} {xs : List V} : SetI (a0 :: a1 :: a2 :: a3 :: a4 :: xs) 4 y (a0 :: a1 :: a2 :: a3 :: y :: xs) := ⟨4, by rw [ixN_of ⟨by decide, by simp only [List.length_cons]; omega⟩] <;> rfl, rfl⟩
theorem atI_4c {α : Type} {a0 a1 a2 a3 a4 : α} {xs : List α} : atI (a0 :: a1 :: a2 :: a3 :: a4 :: xs) 4 = some a4 := atI_nat (j := 4) rfl
instance {a0 a1 a2 a3 a4 a5 y : V} {xs : List V} : SetI (a0 :: a1 :: a2 :: a3 :: a4 :: a5 :: xs) 5 y (a0 :: a1 :: a2 :: a3 :: a4 :: y :: xs) := ⟨5, by rw [ixN_of ⟨by decide, by simp only [List.length_cons]; omega⟩] <;> rfl, rfl⟩
theorem atI_5c {α : Type} {a0 a1 a2 a3 a4 a5 : α} {xs : List α} : atI (a0 :: a1 :: a2 :: a3 :: a4 :: a5 :: xs) 5 = some a5 := atI_nat (j := 5) rfl
instance {a0 a1 a2 a3 a4 a5 a6 y : V} {xs : List V} : SetI (a0 :: a1 :: a2 :: a3 :: a4 :: a5 :: a6 :: xs) 6 y (a0 :: a1 :: a2 :: a3 :: a4 :: a5 :: y :: xs) := ⟨6, by rw [ixN_of ⟨by decide, by simp only [List.length_cons]; omega⟩] <;> rfl, rfl⟩
theorem atI_6c {α : Type} {a0 a1 a2 a3 a4 a5 a6 : α} {xs : List α} : atI (a0 :: a1 :: a2 :: a3 :: a4 :: a5 :: a6 :: xs) 6 = some a6 := atI_nat (j := 6) rfl
instance {a0 a1 a2 a3 a4 a5 a6 a7 y : V} {xs : List V} : SetI (a0 :: a1 :: a2 :: a3 :: a4 :: a5 :: a6 :: a7 :: xs) 7 y (a0 :: a1 :: a2 :: a3 :: a4 :: a5 :: a6 :: y :: xs) := ⟨7, by rw [ixN_of ⟨by decide, by simp only [List.length_cons]; omega⟩] <;> rfl, rfl⟩
theorem atI_7c {α : Type} {a0 a1 a2 a3 a4 a5 a6 a7 : α} {xs : List α} : atI (a0 :: a1 :: a2 :: a3 :: a4 :: a5 :: a6 :: a7 :: xs) 7 = some a7 := atI_nat (j := 7) rfl
theorem g_setC {a : Addr} {xs zs : List V} {y : V} {i : Int} {F : List Atom} {H : Hp} {P : L2.St → Hp → Prop} {σ : L2.St} (w : Own H (pt a (.lst xs) :: F)) [s : SetI xs i y zs] (k : ∀ H1, Own H1 (pt a (.lst zs) :: F) → P σ H1) : kSu2 y rSetL (.ref a) σ P (.int i) H := by
  obtain ⟨j, e, h⟩ := s.h
  exact g_setL w e fun H1 q => k H1 (by rw [← h]; exact q)
theorem own_p13 {a0 a1 a2 a3 a4 a5 a6 a7 a8 a9 a10 a11 a12 x : Atom} {F : List Atom} {H : Hp} (X : Own H (a0 :: a1 :: a2 :: a3 :: a4 :: a5 :: a6 :: a7 :: a8 :: a9 :: a10 :: a11 :: a12 :: x :: F)) : Own H (x :: a0 :: a1 :: a2 :: a3 :: a4 :: a5 :: a6 :: a7 :: a8 :: a9 :: a10 :: a11 :: a12 :: F) := (Own.cons_mono X fun _ z => own_p12 z).swap
theorem own_p14 {a0 a1 a2 a3 a4 a5 a6 a7 a8 a9 a10 a11 a12 a13 x : Atom} {F : List Atom} {H : Hp} (X : Own H (a0 :: a1 :: a2 :: a3 :: a4 :: a5 :: a6 :: a7 :: a8 :: a9 :: a10 :: a11 :: a12 :: a13 :: x :: F)) : Own H (x :: a0 :: a1 :: a2 :: a3 :: a4 :: a5 :: a6 :: a7 :: a8 :: a9 :: a10 :: a11 :: a12 :: a13 :: F) := (Own.cons_mono X fun _ z => own_p13 z).swap
theorem own_p15 {a0 a1 a2 a3 a4 a5 a6 a7 a8 a9 a10 a11 a12 a13 a14 x : Atom} {F : List Atom} {H : Hp} (X : Own H (a0 :: a1 :: a2 :: a3 :: a4 :: a5 :: a6 :: a7 :: a8 :: a9 :: a10 :: a11 :: a12 :: a13 :: a14 :: x :: F)) : Own H (x :: a0 :: a1 :: a2 :: a3 :: a4 :: a5 :: a6 :: a7 :: a8 :: a9 :: a10 :: a11 :: a12 :: a13 :: a14 :: F) := (Own.cons_mono X fun _ z => own_p14 z).swap
theorem own_p16 {a0 a1 a2 a3 a4 a5 a6 a7 a8 a9 a10 a11 a12 a13 a14 a15 x : Atom} {F : List Atom} {H : Hp} (X : Own H (a0 :: a1 :: a2 :: a3 :: a4 :: a5 :: a6 :: a7 :: a8 :: a9 :: a10 :: a11 :: a12 :: a13 :: a14 :: a15 :: x :: F)) : Own H (x :: a0 :: a1 :: a2 :: a3 :: a4 :: a5 :: a6 :: a7 :: a8 :: a9 :: a10 :: a11 :: a12 :: a13 :: a14 :: a15 :: F) := (Own.cons_mono X fun _ z => own_p15 z).swap
theorem own_p17 {a0 a1 a2 a3 a4 a5 a6 a7 a8 a9 a10 a11 a12 a13 a14 a15 a16 x : Atom} {F : List Atom} {H : Hp} (X : Own H (a0 :: a1 :: a2 :: a3 :: a4 :: a5 :: a6 :: a7 :: a8 :: a9 :: a10 :: a11 :: a12 :: a13 :: a14 :: a15 :: a16 :: x :: F)) : Own H (x :: a0 :: a1 :: a2 :: a3 :: a4 :: a5 :: a6 :: a7 :: a8 :: a9 :: a10 :: a11 :: a12 :: a13 :: a14 :: a15 :: a16 :: F) := (Own.cons_mono X fun _ z => own_p16 z).swap
theorem own_p18 {a0 a1 a2 a3 a4 a5 a6 a7 a8 a9 a10 a11 a12 a13 a14 a15 a16 a17 x : Atom} {F : List Atom} {H : Hp} (X : Own H (a0 :: a1 :: a2 :: a3 :: a4 :: a5 :: a6 :: a7 :: a8 :: a9 :: a10 :: a11 :: a12 :: a13 :: a14 :: a15 :: a16 :: a17 :: x :: F)) : Own H (x :: a0 :: a1 :: a2 :: a3 :: a4 :: a5 :: a6 :: a7 :: a8 :: a9 :: a10 :: a11 :: a12 :: a13 :: a14 :: a15 :: a16 :: a17 :: F) := (Own.cons_mono X fun _ z => own_p17 z).swap
theorem own_p19 {a0 a1 a2 a3 a4 a5 a6 a7 a8 a9 a10 a11 a12 a13 a14 a15 a16 a17 a18 x : Atom} {F : List Atom} {H : Hp} (X : Own H (a0 :: a1 :: a2 :: a3 :: a4 :: a5 :: a6 :: a7 :: a8 :: a9 :: a10 :: a11 :: a12 :: a13 :: a14 :: a15 :: a16 :: a17 :: a18 :: x :: F)) : Own H (x :: a0 :: a1 :: a2 :: a3 :: a4 :: a5 :: a6 :: a7 :: a8 :: a9 :: a10 :: a11 :: a12 :: a13 :: a14 :: a15 :: a16 :: a17 :: a18 :: F) := (Own.cons_mono X fun _ z => own_p18 z).swap
end SL
end

section
set_option Elab.async false
set_option linter.all false
set_option maxRecDepth 100000
/-! ## SL12: slices of lists of one kind -/
namespace SL
open PySem PySem.Spec L2
/-- what is not reached -/
def tNev : TE := fun _ _ _ => False
theorem pe_nev {X : Cx} {e : Expr} : PE X e tNev := ⟨fun _ _ _ _ _ _ h => h.elim⟩
def cut {α : Type} (xs : List α) (lo hi : Option Int) : List α := (xs.drop (HT.sIx xs.length 0 lo)).take (HT.sIx xs.length xs.length hi - HT.sIx xs.length 0 lo)
theorem cutV_map {α : Type} {g : α → V} {xs : List α} {lo hi : Option Int} : cutV (xs.map g) lo hi = (cut xs lo hi).map g := by
  unfold cutV cut
  rw [List.length_map, List.map_take, List.map_drop]
theorem sIx_pos {n d : Nat} {i : Int} (h : 0 ≤ i) : HT.sIx n d (some i) = min i.toNat n := by
  show (if i < 0 then (i + (n : Int)).toNat else min i.toNat n) = _
  rw [if_neg (by omega)]
theorem cut_drop {α : Type} {xs : List α} {i : Int} (h : 0 ≤ i) : cut xs (some i) none = xs.drop i.toNat := by
  unfold cut
  rw [sIx_pos h, HT.sIx_none]
  by_cases q : i.toNat ≤ xs.length
  · rw [Nat.min_eq_left q, List.take_of_length_le (by rw [List.length_drop]; omega)]
  · rw [Nat.min_eq_right (by omega), List.drop_eq_nil_of_le (Nat.le_refl _), List.drop_eq_nil_of_le (by omega), List.take_nil]
theorem cut_take {α : Type} {xs : List α} {i : Int} (h : 0 ≤ i) : cut xs none (some i) = xs.take i.toNat := by
  unfold cut
  rw [sIx_pos h, HT.sIx_none, List.drop_zero, Nat.sub_zero]
  by_cases q : i.toNat ≤ xs.length
  · rw [Nat.min_eq_left q]
  · rw [Nat.min_eq_right (by omega), List.take_of_length_le (Nat.le_refl _), List.take_of_length_le (by omega)]
theorem cut_butlast {α : Type} {xs : List α} : cut xs none (some (-1)) = xs.dropLast := by
  unfold cut
  rw [HT.sIx_none, List.drop_zero, Nat.sub_zero]
  have e : HT.sIx xs.length xs.length (some (-1)) = xs.length - 1 := by
    show (if (-1 : Int) < 0 then ((-1 : Int) + (xs.length : Int)).toNat else min (-1 : Int).toNat xs.length) = _
    rw [if_pos (by decide)]
    omega
  rw [e, List.dropLast_eq_take]
section
variable {K : PySem.W.Frag} {H : Hp} {F : List Atom} {Q : VK} {a : Addr} {α : Type} {g : α → V} {xs : List α} {i : Int}
theorem g_slD (h : H a = some (.lst (xs.map g))) (z : Own H F) (hp : 0 ≤ i) (k : ∀ q H1, Own H1 (pt q (.lst ((xs.drop i.toNat).map g)) :: F) → Q (.ref q) H1) : rSlL K (.ref a) (some i) none H Q :=
  g_slice h z fun q H1 w => k q H1 (by rw [cutV_map, cut_drop hp] at w; exact w)
theorem g_slT (h : H a = some (.lst (xs.map g))) (z : Own H F) (hp : 0 ≤ i) (k : ∀ q H1, Own H1 (pt q (.lst ((xs.take i.toNat).map g)) :: F) → Q (.ref q) H1) : rSlL K (.ref a) none (some i) H Q :=
  g_slice h z fun q H1 w => k q H1 (by rw [cutV_map, cut_take hp] at w; exact w)
theorem g_slB (h : H a = some (.lst (xs.map g))) (z : Own H F) (k : ∀ q H1, Own H1 (pt q (.lst (xs.dropLast.map g)) :: F) → Q (.ref q) H1) : rSlL K (.ref a) none (some (-1)) H Q :=
  g_slice h z fun q H1 w => k q H1 (by rw [cutV_map, cut_butlast] at w; exact w)
variable {vs : List V}
theorem g_slDv (h : H a = some (.lst vs)) (z : Own H F) (hp : 0 ≤ i) (k : ∀ q H1, Own H1 (pt q (.lst (vs.drop i.toNat)) :: F) → Q (.ref q) H1) : rSlL K (.ref a) (some i) none H Q :=
  g_slice h z fun q H1 w => k q H1 (by rw [show cutV vs (some i) none = cut vs (some i) none from rfl, cut_drop hp] at w; exact w)
theorem g_slTv (h : H a = some (.lst vs)) (z : Own H F) (hp : 0 ≤ i) (k : ∀ q H1, Own H1 (pt q (.lst (vs.take i.toNat)) :: F) → Q (.ref q) H1) : rSlL K (.ref a) none (some i) H Q :=
  g_slice h z fun q H1 w => k q H1 (by rw [show cutV vs none (some i) = cut vs none (some i) from rfl, cut_take hp] at w; exact w)
end
section
variable {K : PySem.W.Frag} {H : Hp} {F : List Atom} {Q : VK} {σ : L2.St} {vs : List Nat} {t : TT} {te : TE} {β : Type}
/-- a comprehension over a range, the items drawn: each keeps P -/
theorem comp_rangeD {n : Nat} {g : TG} (gy : β → V) (P : β → Prop) (σ0 : L2.St) (hn : n ≤ 1000000) (hw : wipe σ vs = σ0) (z : Own H F)
    (hs : ∀ (i : Nat) (G : Atom) H' (Y : VK) (N : Hp → Prop), i < n → Own H' (G :: F) → (∀ y H4, P y → Own H4 (G :: F) → Y (gy y) H4) → g (.int (i : Int)) σ0 H' (kWp vs σ0 t te Y N))
    (hd : ∀ (ys : List β) D H', ys.length = n → (∀ y ∈ ys, P y) → Own H' (pt D (.lst (ys.map gy)) :: F) → Q (.ref D) H') : kLc g t te vs σ Q (Itr 0 n) H := by
  refine comp_range σ0 hn hw (fun i acc => pu (∃ ys : List β, acc = ys.map gy ∧ ys.length = i ∧ ∀ y ∈ ys, P y) :: F) (own_put ⟨[], rfl, rfl, fun _ h => nomatch h⟩ z) ?_ ?_
  · intro i acc G H' Y N hi _ w hY hN
    obtain ⟨⟨ys, e, hl, hp⟩, w⟩ := own_pu (own_p1 w)
    refine hs i G H' Y N hi w fun y H4 py w4 => hY _ _ (own_p1 (own_put ⟨ys ++ [y], ?_, ?_, ?_⟩ w4))
    · rw [e, List.map_append] <;> rfl
    · rw [List.length_append, hl] <;> rfl
    · intro x hx
      rcases List.mem_append.mp hx with m | m
      · exact hp x m
      · rw [List.mem_singleton.mp m]
        exact py
  · intro acc D H' _ w
    obtain ⟨⟨ys, e, hl, hp⟩, w⟩ := own_pu (own_p1 w)
    subst e
    exact hd ys D H' hl hp w
end
section
variable {α : Type} {S : Addr → α → Atom} {rs : List Addr} {xs : List α} {F : List Atom} {H : Hp}
theorem bg_at {i : Nat} {v : V} (w : Own H (bgA S rs xs :: F)) (h : (rs.map V.ref)[i]? = some v) : ∃ r x, v = .ref r ∧ rs[i]? = some r ∧ xs[i]? = some x ∧ Own H (S r x :: bgA S (rs.take i) (xs.take i) :: bgA S (rs.drop (i + 1)) (xs.drop (i + 1)) :: F) := by
  have hl := bg_len w
  have hi : i < rs.length := by
    have := (List.getElem?_eq_some_iff.mp h).1
    rwa [List.length_map] at this
  have hx : xs[i]? = some xs[i] := List.getElem?_eq_getElem (by omega)
  obtain ⟨r, hr, w2⟩ := bg_focus w hx
  rw [List.getElem?_map, hr] at h
  exact ⟨r, _, (Option.some.inj h).symm, hr, hx, w2⟩
theorem take_succ_at {i : Nat} {x : α} (h : xs[i]? = some x) : xs.take (i + 1) = xs.take i ++ [x] := by rw [List.take_succ, h] <;> rfl
theorem set_self {i : Nat} {x : α} (h : xs[i]? = some x) : xs.set i x = xs := by
  obtain ⟨hi, e⟩ := List.getElem?_eq_some_iff.mp h
  rw [← e, List.set_getElem_self]
/-- the thing at i as it was -/
theorem bg_back {i : Nat} {r : Addr} {x : α} (hr : rs[i]? = some r) (hx : xs[i]? = some x) (w : Own H (S r x :: bgA S (rs.take i) (xs.take i) :: bgA S (rs.drop (i + 1)) (xs.drop (i + 1)) :: F)) : Own H (bgA S rs xs :: F) := by
  have h := bg_refocus hr (List.getElem?_eq_some_iff.mp hx).1 w
  rwa [set_self hx] at h
variable {K : PySem.W.Frag} {Q : VK} {σ : L2.St} {vs : List Nat} {t : TT} {te : TE} {l : Addr}
/-- a comprehension over things that stand, one by one; plain items -/
theorem comp_bgP {g : TG} (pp : α → Bool) (f : α → V) (σ0 : L2.St) (hn : xs.length ≤ 1000000) (hw : wipe σ vs = σ0) (z : Own H (pt l (.lst (rs.map V.ref)) :: bgA S rs xs :: F))
    (hs : ∀ (r : Addr) (x : α) (G : Atom) H' (Y : VK) (N : Hp → Prop), x ∈ xs → Own H' (S r x :: G :: F) → (pp x = true → ∀ H4, Own H4 (S r x :: G :: F) → Y (f x) H4) → (pp x = false → ∀ H3, Own H3 (S r x :: G :: F) → N H3) → g (.ref r) σ0 H' (kWp vs σ0 t te Y N))
    (hd : ∀ D H', Own H' (pt D (.lst ((xs.filter pp).map f)) :: pt l (.lst (rs.map V.ref)) :: bgA S rs xs :: F) → Q (.ref D) H') : kLc g t te vs σ Q (Itl K l) H := by
  have hl := bg_len (own_p1 z)
  refine comp_list (xs := rs.map V.ref) σ0 (by rw [List.length_map]; omega) hw (fun i acc => pu (acc = ((xs.take i).filter pp).map f) :: pt l (.lst (rs.map V.ref)) :: bgA S rs xs :: F) (own_put rfl z) (fun i acc H' w => SqL.of (own_pt (own_p1 w))) ?_ ?_
  · intro i v acc G H' Y N hi _ w hY hN
    obtain ⟨e1, w⟩ := own_pu (own_p1 w)
    obtain ⟨r, x, rfl, hr, hx, w2⟩ := bg_at (own_p2 w) hi
    have w3 := Own.cons_mono w2 fun _ z => own_out (cs := [bgA S (rs.take i) (xs.take i), bgA S (rs.drop (i + 1)) (xs.drop (i + 1)), G, pt l (.lst (rs.map V.ref))]) z
    have fin : ∀ H4, Own H4 (S r x :: al [bgA S (rs.take i) (xs.take i), bgA S (rs.drop (i + 1)) (xs.drop (i + 1)), G, pt l (.lst (rs.map V.ref))] :: F) → Own H4 (G :: pt l (.lst (rs.map V.ref)) :: bgA S rs xs :: F) := fun H4 w4 => own_p2 (own_p2 (bg_back hr hx (Own.cons_mono w4 fun _ z => own_in z)))
    refine hs r x _ H' Y N (List.mem_of_getElem? hx) w3 (fun hp H4 w4 => hY _ _ (own_p1 (own_put ?_ (fin H4 w4)))) (fun hp H3 w4 => hN _ (own_p1 (own_put ?_ (fin H3 w4))))
    · rw [e1, take_succ_at hx, List.filter_append, List.map_append]
      show _ = _ ++ (List.filter pp [x]).map f
      rw [List.filter_cons_of_pos hp] <;> rfl
    · rw [e1, take_succ_at hx, List.filter_append, List.map_append]
      show _ = _ ++ (List.filter pp [x]).map f
      rw [List.filter_cons_of_neg (by rw [hp]; exact Bool.false_ne_true)]
      show _ = _ ++ []
      rw [List.append_nil]
  · intro acc D H' _ w
    obtain ⟨e, w⟩ := own_pu (own_p1 w)
    rw [e, List.length_map, hl, List.take_length] at w
    exact hd D H' w
end
end SL
end

section
set_option Elab.async false
set_option linter.all false
set_option maxRecDepth 100000
/-! ## SL13: texts compared; loops over things -/
namespace SL
open PySem PySem.Spec L2
section
variable {K : PySem.W.Frag} {H : Hp} {Q : VK} {x y : Str} {G' : Prop}
theorem str_dec : decide (V.str x = V.str y) = decide (x = y) := by
  by_cases q : x = y
  · rw [decide_eq_true q, decide_eq_true (congrArg V.str q)]
  · rw [decide_eq_false q, decide_eq_false (fun z => q (V.str.inj z))]
instance [q : Rd (Q (.bl (decide (x = y))) H) G'] : Rd1 (rEq (.str x) (.str y) H Q) G' := ⟨fun z => ⟨rfl, by rw [str_dec]; exact q.h z⟩⟩
instance [q : Rd (Q (.bl (!decide (x = y))) H) G'] : Rd1 (rNe (.str x) (.str y) H Q) G' := ⟨fun z => ⟨rfl, by rw [str_dec]; exact q.h z⟩⟩
end
section
variable {K : PySem.W.Frag} {H : Hp} {Q : VK} {a : Addr} {α : Type} {g : α → V} {x y : α} {xs : List α}
theorem g_ixM0 (h : H a = some (.lst ((x :: xs).map g))) (k : Q (g x) H) : rIxL K (.ref a) (.int 0) H Q := g_ixL h atI_0c k
theorem g_ixM1 (h : H a = some (.lst ((x :: y :: xs).map g))) (k : Q (g y) H) : rIxL K (.ref a) (.int 1) H Q := g_ixL h atI_1c k
end
end SL
end

section
set_option Elab.async false
set_option linter.all false
set_option maxRecDepth 100000
/-! ## SL14: chains of comparisons; calls by keywords; things made in a comprehension -/
namespace SL
open PySem PySem.Spec L2
section
variable {K : PySem.W.Frag} {σ : L2.St} {H : Hp} {Q : VK} {ta tb tc : TE} {r r' : R2} {x y : V} {b : Bool} {G' : Prop}
def kCh3 (r' : R2) (y : V) (tc : TE) (σ : L2.St) (Q : VK) : VK := fun z H3 => ∃ k, z = .bl k ∧ (if k = true then tc σ H3 fun w' H4 => r' y w' H4 Q else Q (.bl false) H3)
def kCh2 (r r' : R2) (x : V) (tc : TE) (σ : L2.St) (Q : VK) : VK := fun y H2 => r x y H2 (kCh3 r' y tc σ Q)
def kCh1 (r r' : R2) (tb tc : TE) (σ : L2.St) (Q : VK) : VK := fun x H1 => tb σ H1 (kCh2 r r' x tc σ Q)
instance [q : Rd (ta σ H (kCh1 r r' tb tc σ Q)) G'] : Rd1 (tChain r r' ta tb tc σ H Q) G' := ⟨fun z => q.h z⟩
instance [q : Rd (tb σ H (kCh2 r r' x tc σ Q)) G'] : Rd1 (kCh1 r r' tb tc σ Q x H) G' := ⟨fun z => q.h z⟩
instance [q : Rd (r x y H (kCh3 r' y tc σ Q)) G'] : Rd1 (kCh2 r r' x tc σ Q y H) G' := ⟨fun z => q.h z⟩
theorem g_ch3 (h1 : b = true → tc σ H (kOp2 r' y Q)) (h2 : b = false → Q (.bl false) H) : kCh3 r' y tc σ Q (.bl b) H := by
  cases b with
  | true => exact ⟨true, rfl, h1 rfl⟩
  | false => exact ⟨false, rfl, h2 rfl⟩
end
/-! ### calls by keywords -/
theorem vals_at : ∀ {vs : List V} {us : List Value} (i : Nat), Vals vs us → Vals (vs[i]?).toList (us[i]?).toList
  | [], [], _, _ => .nil
  | [], _ :: _, _, h => by cases h
  | _ :: _, [], _, h => by cases h
  | _ :: _, _ :: _, 0, .cons a _ => .cons a .nil
  | _ :: _, _ :: _, i + 1, .cons _ b => by
    simp only [List.getElem?_cons_succ]
    exact vals_at i b
structure MkK (P : Program) (w : World) (K : PySem.W.Frag) (mg : Str → Option Value) (base : Heap) (k : Nat) (x : Str) (C : Addr) (sp : Sp) (ks : List Str) (gV : List V → List V → List V) : Prop where
  ex : ∃ (f : Addr) (fd : FuncData) (ps : List Str) (g : List Value → List Value → List Value), Mk K C f ∧ FnOk P w K mg base C8.CX0 k f fd ps sp ∧ mg x = some (.ref C) ∧ KBn K fd ps 1 ks g gV
theorem pe_mkK {X : Cx} {k j : Nat} {C : Addr} {x : Str} {sp : Sp} {ks : List Str} {gV : List V → List V → List V} {p pos : Pos} {kws : List Keyword} {tk : TA} (c : MkK X.prog X.w X.K X.mg X.base k x C sp ks gV) (hr : Room j X.A) (hk : k + 1 ≤ j) (hg : Gl X x) (hkw : PK X kws tk)
    (hall : (backToKw pos (keywordEach kws X.env)).all (·.1.isSome) = true := by rfl) (hks : (backToKw pos (keywordEach kws X.env)).filterMap (·.1) = ks := by rfl) (hdb : (x == ("__debug__" : Str)) = false := by decide)
    (hpl : ((backTo pos (starEach [] X.env)).any (·.1) || (backToKw pos (keywordEach kws X.env)).any (·.1.isNone)) = false := by rfl) :
    PE X (.Call (.Name x p) [] kws pos) (tMakeK C 0 ks.length sp gV C8.E0 tNil tk) := by
  obtain ⟨f, fd, ps, g, M, F, hm, b⟩ := c.ex
  exact pe_makeK0 M F (hr.mono hk) hg hm b pass0 hkw hall hks hdb hpl
section
variable {K : PySem.W.Frag} {σ : L2.St} {H : Hp} {Q : VK} {C : Addr} {n m : Nat} {sp : Sp} {gV : List V → List V → List V} {E : XK} {t tk : TA} {vs zs ws : List V} {F : List Atom} {G' : Prop}
def kMk2 (C : Addr) (n m : Nat) (sp : Sp) (gV : List V → List V → List V) (E : XK) (Q : VK) (vs : List V) : List V → Hp → Prop := fun zs H2 => vs.length = n ∧ zs.length = m ∧ ∀ x dx, H2 x = none → H2 dx = none → dx ≠ x →
  sp (gV (.ref x :: vs) zs) (upd (upd H2 dx (.own x)) x (.ins C dx [])) (fun v H3 => v = .non ∧ Q (.ref x) H3) E
def kMk1 (C : Addr) (n m : Nat) (sp : Sp) (gV : List V → List V → List V) (E : XK) (tk : TA) (σ : L2.St) (Q : VK) : List V → Hp → Prop := fun vs H1 => tk σ H1 (kMk2 C n m sp gV E Q vs)
instance [q : Rd (t σ H (kMk1 C n m sp gV E tk σ Q)) G'] : Rd1 (tMakeK C n m sp gV E t tk σ H Q) G' := ⟨fun z => q.h z⟩
instance [q : Rd (tk σ H (kMk2 C n m sp gV E Q vs)) G'] : Rd1 (kMk1 C n m sp gV E tk σ Q vs H) G' := ⟨fun z => q.h z⟩
/-- what __init__ is called with, besides the instance -/
class MkA (gV : List V → List V → List V) (zs : List V) (ws : outParam (List V)) : Prop where
  h : ∀ x, gV [x] zs = x :: ws
theorem hd_mk2 (k : kMk2 C n m sp gV E Q vs zs H) : kMk2 C n m sp gV E Q vs zs H := k
theorem g_mk2 (z : Own H F) [a : MkA gV zs ws] (hl : zs.length = m) (k : ∀ p H1, Own H1 (ob p C [] :: F) → sp (.ref p :: ws) H1 (kMade p Q) E) : kMk2 C 0 m sp gV E Q [] zs H := ⟨rfl, hl, fun x dx n1 n2 ne => by
  rw [a.h]
  exact k x _ (own_made z n1 n2 ne)⟩
end
section
variable {K : PySem.W.Frag} {H : Hp} {F : List Atom} {Q : VK} {a : Addr} {σ : L2.St} {vs : List Nat} {t : TT} {te : TE} {α β : Type} {S : Addr → β → Atom}
structure acA {β : Type} (S : Addr → β → Atom) (acc : List V) (ys : List β) (h : Hp) : Prop where
  e : ∃ rs : List Addr, acc = rs.map V.ref ∧ bgA S rs ys h
theorem ac_open {acc : List V} {ys : List β} (x : Own H (acA S acc ys :: F)) : ∃ rs : List Addr, acc = rs.map V.ref ∧ Own H (bgA S rs ys :: F) := by
  obtain ⟨rs, y⟩ := own_ex (x.mono1 fun _ q => q.e)
  obtain ⟨_, ⟨e, _⟩, _⟩ := y.at1
  exact ⟨rs, e, y.mono1 fun _ q => q.2⟩
theorem ac_snoc {acc : List V} {ys : List β} {r : Addr} {y : β} (x : Own H (S r y :: acA S acc ys :: F)) : Own H (acA S (acc ++ [.ref r]) (ys ++ [y]) :: F) := by
  obtain ⟨rs, e, z⟩ := ac_open (own_p1 x)
  subst e
  exact (bg_snoc (own_p1 z)).mono1 fun _ q => ⟨rs ++ [r], by rw [List.map_append] <;> rfl, q⟩
/-- [make(x) for x in xs] over a list of one kind: a thing for each, R tells which -/
theorem comp_listO {g : TG} (xs : List α) (gx : α → V) (R : α → β → Prop) (σ0 : L2.St) (hn : xs.length ≤ 1000000) (hw : wipe σ vs = σ0) (z : Own H F) (hl : ∀ H', Own H' F → SqL K H' a (xs.map gx))
    (hs : ∀ (x : α) (G : Atom) H' (Y : VK) (N : Hp → Prop), x ∈ xs → Own H' (G :: F) → (∀ r y H4, R x y → Own H4 (S r y :: G :: F) → Y (.ref r) H4) → g (gx x) σ0 H' (kWp vs σ0 t te Y N))
    (hd : ∀ rs ys D H', Al2 R xs ys → Own H' (pt D (.lst (rs.map V.ref)) :: bgA S rs ys :: F) → Q (.ref D) H') : kLc g t te vs σ Q (Itl K a) H := by
  refine comp_list (xs := xs.map gx) σ0 (by rw [List.length_map]; exact hn) hw (fun i acc => (fun h => ∃ ys : List β, (fun h => Al2 R (xs.take i) ys ∧ acA S acc ys h) h) :: F) ?_ (fun i acc H' w => hl H' w.tail) ?_ ?_
  · refine own_ext (P := fun ys h => Al2 R (xs.take 0) ys ∧ acA S [] ys h) [] ?_
    exact (bg_nil (S := S) z).mono1 fun _ q => ⟨.nil, ⟨[], rfl, q⟩⟩
  · intro i v acc G H' Y N hi _ w hY hN
    rw [List.getElem?_map] at hi
    cases e : xs[i]? with
    | none => rw [e] at hi; cases hi
    | some x =>
      rw [e] at hi
      cases hi
      obtain ⟨ys, w⟩ := own_ex (P := fun ys h => Al2 R (xs.take i) ys ∧ acA S acc ys h) (own_p1 w)
      obtain ⟨_, ⟨ha, _⟩, _⟩ := w.at1
      replace w := w.mono1 fun _ q => q.2
      have w2 := own_out (cs := [acA S acc ys, G]) w
      refine hs x _ H' Y N (List.mem_of_getElem? e) w2 fun r y H4 hr w4 => hY _ _ ?_
      have w5 := Own.cons_mono w4 fun _ z => own_in z
      have w6 := ac_snoc w5
      refine own_p1 (own_ext (P := fun ys h => Al2 R (xs.take (i + 1)) ys ∧ acA S (acc ++ [.ref r]) ys h) (ys ++ [y]) ?_)
      rw [take_succ_at e]
      exact w6.mono1 fun _ q => ⟨ha.snoc hr, q⟩
  · intro acc D H' _ w
    obtain ⟨ys, w⟩ := own_ex (P := fun ys h => Al2 R (xs.take (xs.map gx).length) ys ∧ acA S acc ys h) (own_p1 w)
    obtain ⟨_, ⟨ha, _⟩, _⟩ := w.at1
    replace w := w.mono1 fun _ q => q.2
    obtain ⟨rs, e, w⟩ := ac_open w
    subst e
    rw [List.length_map, List.take_length] at ha
    exact hd rs ys D H' ha (own_p1 w)
/-- [make() for _ in range(n)] -/
theorem comp_rangeO {g : TG} {n : Nat} (P : β → Prop) (σ0 : L2.St) (hn : n ≤ 1000000) (hw : wipe σ vs = σ0) (z : Own H F)
    (hs : ∀ (i : Nat) (G : Atom) H' (Y : VK) (N : Hp → Prop), i < n → Own H' (G :: F) → (∀ r y H4, P y → Own H4 (S r y :: G :: F) → Y (.ref r) H4) → g (.int (i : Int)) σ0 H' (kWp vs σ0 t te Y N))
    (hd : ∀ rs (ys : List β) D H', ys.length = n → (∀ y ∈ ys, P y) → Own H' (pt D (.lst (rs.map V.ref)) :: bgA S rs ys :: F) → Q (.ref D) H') : kLc g t te vs σ Q (Itr 0 n) H := by
  refine comp_range σ0 hn hw (fun i acc => (fun h => ∃ ys : List β, (fun h => (ys.length = i ∧ ∀ y ∈ ys, P y) ∧ acA S acc ys h) h) :: F) ?_ ?_ ?_
  · refine own_ext (P := fun ys h => (ys.length = 0 ∧ ∀ y ∈ ys, P y) ∧ acA S [] ys h) [] ?_
    exact (bg_nil (S := S) z).mono1 fun _ q => ⟨⟨rfl, fun _ h => nomatch h⟩, ⟨[], rfl, q⟩⟩
  · intro i acc G H' Y N hi _ w hY hN
    obtain ⟨ys, w⟩ := own_ex (P := fun ys h => (ys.length = i ∧ ∀ y ∈ ys, P y) ∧ acA S acc ys h) (own_p1 w)
    obtain ⟨_, ⟨⟨ha, hb⟩, _⟩, _⟩ := w.at1
    replace w := w.mono1 fun _ q => q.2
    have w2 := own_out (cs := [acA S acc ys, G]) w
    refine hs i _ H' Y N hi w2 fun r y H4 hr w4 => hY _ _ ?_
    have w5 := Own.cons_mono w4 fun _ z => own_in z
    have w6 := ac_snoc w5
    refine own_p1 (own_ext (P := fun ys h => (ys.length = i + 1 ∧ ∀ y ∈ ys, P y) ∧ acA S (acc ++ [.ref r]) ys h) (ys ++ [y]) ?_)
    refine w6.mono1 fun _ q => ⟨⟨by rw [List.length_append, ha] <;> rfl, fun x hx => ?_⟩, q⟩
    rcases List.mem_append.mp hx with m | m
    · exact hb x m
    · rw [List.mem_singleton.mp m]
      exact hr
  · intro acc D H' _ w
    obtain ⟨ys, w⟩ := own_ex (P := fun ys h => (ys.length = n ∧ ∀ y ∈ ys, P y) ∧ acA S acc ys h) (own_p1 w)
    obtain ⟨_, ⟨⟨ha, hb⟩, _⟩, _⟩ := w.at1
    replace w := w.mono1 fun _ q => q.2
    obtain ⟨rs, e, w⟩ := ac_open w
    subst e
    exact hd rs ys D H' ha hb (own_p1 w)
end
section
variable {K : PySem.W.Frag} {H : Hp} {F : List Atom} {Q : VK} {l : Addr} {σ : L2.St} {vs : List Nat} {t : TT} {te : TE} {α : Type} {S : Addr → α → Atom} {rs : List Addr} {xs : List α}
/-- [a number of x for x in things] -/
theorem comp_bgI {g : TG} (f : α → Int) (hn : xs.length ≤ 1000000) (z : Own H (pt l (.lst (rs.map V.ref)) :: bgA S rs xs :: F))
    (hs : ∀ (r : Addr) (x : α) (G : Atom) H' (Y : VK) (N : Hp → Prop), x ∈ xs → Own H' (S r x :: G :: F) → (∀ H4, Own H4 (S r x :: G :: F) → Y (.int (f x)) H4) → g (.ref r) (wipe σ vs) H' (kWp vs (wipe σ vs) t te Y N))
    (hd : ∀ D H', Own H' (pt D (.lst ((xs.map f).map V.int)) :: pt l (.lst (rs.map V.ref)) :: bgA S rs xs :: F) → Q (.ref D) H') : kLc g t te vs σ Q (Itl K l) H :=
  comp_bgP (fun _ => true) (fun x => .int (f x)) _ hn rfl z (fun r x G H' Y N hx w hY _ => hs r x G H' Y N hx w (hY rfl)) fun D H' w => hd D H' (by
    rw [filter_tt] at w
    rw [List.map_map]
    exact w)
theorem at0_at {α : Type} [Inhabited α] {xs : List α} {i : Nat} {x : α} (h : xs[i]? = some x) : at0 xs (i : Int) = x := by
  show xs.getD i default = x
  rw [List.getD_eq_getElem?_getD, h] <;> rfl
/-- the thing at i: its address, itself -/
theorem bg_ix {i : Nat} (w : Own H (bgA S rs xs :: F)) (h : i < xs.length) : ∃ r x, at0 rs (i : Int) = r ∧ rs[i]? = some r ∧ xs[i]? = some x ∧ Own H (S r x :: bgA S (rs.take i) (xs.take i) :: bgA S (rs.drop (i + 1)) (xs.drop (i + 1)) :: F) := by
  have hx : xs[i]? = some xs[i] := List.getElem?_eq_getElem h
  obtain ⟨r, hr, w2⟩ := bg_focus w hx
  exact ⟨r, _, at0_at hr, hr, hx, w2⟩
end
end SL
end

section
set_option Elab.async false
set_option linter.all false
set_option maxRecDepth 100000
/-! ## SL15: repr of data; a def that is called where no container's repr is under way -/
namespace SL
open PySem PySem.Spec PyProof.Rows L2
mutual
/-- ints of few digits, no dict -/
def okI : PyData → Bool
  | .int i => decide (i.natAbs < 10 ^ 12)
  | .list xs => okIs xs
  | .tuple xs => okIs xs
  | .dict _ => false
  | _ => true
def okIs : List PyData → Bool
  | [] => true
  | x :: xs => okI x && okIs xs
end
mutual
theorem okI_short : ∀ d : PyData, okI d = true → d.intsShort 13 = true
  | .none, _ => by simp only [PyData.intsShort]
  | .bool _, _ => by simp only [PyData.intsShort]
  | .str _, _ => by simp only [PyData.intsShort]
  | .int i, h => by
    simp only [PyData.intsShort, decide_eq_true_eq]
    exact PyData.shown_int_le (by simpa only [okI, decide_eq_true_eq] using h)
  | .list xs, h => by
    simp only [PyData.intsShort]
    exact okIs_short xs (by simpa only [okI] using h)
  | .tuple xs, h => by
    simp only [PyData.intsShort]
    exact okIs_short xs (by simpa only [okI] using h)
  | .dict _, h => by simp only [PyData.intsShort]
theorem okIs_short : ∀ xs : List PyData, okIs xs = true → PyData.intsShortAll 13 xs = true
  | [], _ => by simp only [PyData.intsShortAll]
  | x :: xs, h => by
    have h2 : okI x = true ∧ okIs xs = true := by simpa only [okIs, Bool.and_eq_true] using h
    simp only [PyData.intsShortAll, Bool.and_eq_true]
    exact ⟨okI_short x h2.1, okIs_short xs h2.2⟩
end
mutual
theorem okI_shows : ∀ d : PyData, okI d = true → d.showable = true
  | .none, _ => by simp only [PyData.showable]
  | .bool _, _ => by simp only [PyData.showable]
  | .str _, _ => by simp only [PyData.showable]
  | .int i, h => by
    simp only [PyData.showable, decide_eq_true_eq]
    have h2 : i.natAbs < 10 ^ 12 := by simpa only [okI, decide_eq_true_eq] using h
    by_cases h0 : i.natAbs = 0
    · rw [h0]
      decide
    · have h3 : i.natAbs.log2 < 40 := (Nat.log2_lt h0).mpr (Nat.lt_of_lt_of_le h2 (by decide))
      omega
  | .list xs, h => by
    simp only [PyData.showable]
    exact okIs_shows xs (by simpa only [okI] using h)
  | .tuple xs, h => by
    simp only [PyData.showable]
    exact okIs_shows xs (by simpa only [okI] using h)
  | .dict _, h => by simp only [okI] at h; cases h
theorem okIs_shows : ∀ xs : List PyData, okIs xs = true → PyData.showableAll xs = true
  | [], _ => by simp only [PyData.showableAll]
  | x :: xs, h => by
    have h2 : okI x = true ∧ okIs xs = true := by simpa only [okIs, Bool.and_eq_true] using h
    simp only [PyData.showableAll, Bool.and_eq_true]
    exact ⟨okI_shows x h2.1, okIs_shows xs h2.2⟩
end
/-- repr of a list or a tuple, as data -/
def rRepr (K : PySem.W.Frag) : List V → Hp → VK → Prop := fun vs H Q => ∃ (a : Addr) (d : PyData), vs = [.ref a] ∧ Dp K H (.ref a) d ∧ (d.canLay0 = true ∧ d.depth ≤ 60 ∧ d.weight ≤ 2 ^ 20 ∧ okI d = true) ∧ Q (.str d.shown) H
theorem call_reprG {X : Cx} (hg : X.A.guards = some []) (hu : X.A.units + 100 < cLine) : CallR X (.builtin "repr") (rRepr X.K) := by
  intro pins s σ H xs us Q I r h
  obtain ⟨a, d, rfl, hd, ⟨h1, h2, h3, h4⟩, q⟩ := h
  rw [Vals.ref1 r]
  obtain ⟨as, rd⟩ := Dp.reads I d (V.ref a) (Value.ref a) hd rfl
  have lay : PyData.layable0 d = true := by
    show (PyData.canLay0 d && decide (d.depth ≤ 64) && decide (d.weight ≤ 2 ^ 20)) = true
    rw [h1, decide_eq_true (show d.depth ≤ 64 by omega), decide_eq_true h3]
    rfl
  exact repr_of_reads' rd (okI_shows d h4) (PyData.noDict_hsm (PyData.hasDict_of_canLay d h1)) hg (by omega) (fun _ _ e => e) (fun h' u tk k => ⟨.str d.shown, H, I.kept k, ⟨_, rfl⟩, q⟩)
    (PyData.shown_fits_of_layable0 (B := 13) (by decide) (by decide) lay (okI_short d h4))
/-- what `FnOk` tells, where no container's repr is under way -/
structure FnG (P : Program) (w : World) (K : PySem.W.Frag) (mg : Str → Option Value) (base : Heap) (k : Nat) (f : Addr) (fd : FuncData) (ps : List Str) (sp : Sp) : Prop where
  ln : ∀ vs H Q E, sp vs H Q E → vs.length = ps.length
  go : ∀ (A : Around) (out : List Env) (s : Shared) (H : Hp) (ar : Args) (us : List Value) (vs : List V) (Q : VK) (E : XK), A.guards = some [] → Room k A → Env0 P w K mg base A out s H → BindsTo s fd ar (ps.zip us) → Vals vs us → sp vs H Q E →
    codeAny (model P w) A (.call (.ref f) ar) (CR C8.CX0 out P w H s Q E) s
theorem fnG_of {P : Program} {w : World} {K : PySem.W.Frag} {mg : Str → Option Value} {base : Heap} {x qual : Str} {params : Arguments} {body : List Stmt} {scope : Scope} {kws : List (Str × V)} {f : Addr} {fd : FuncData} {N ps : List Str} {k : Nat} {sp : Sp} {t : TS}
    (F : FunD K x qual params body scope [] kws f fd) (S : FnScope N ps scope) (ln : ∀ vs H Q E, sp vs H Q E → vs.length = ps.length) (pu : ∀ vs H Q E, sp vs H Q E → t (De Q) (start N vs) H)
    (dv : ∀ (cdv : Value) (A : Around) (out : List Env) (s : Shared) (H : Hp) (E : XK), A.guards = some [] → Room k (A.deeper (envOfC qual scope s.heap.objs.size f cdv)) → PSs (cxOf C8.CX0 P w K mg base N qual scope f cdv A out s H E).nox body t) : FnG P w K mg base (k + 1) f fd ps sp := by
  obtain ⟨oc, od, dV, kV, doc, pm, an, cdv, ct, osl, rfl, lk, hcd, _, _⟩ := F.ex
  constructor
  case ln => exact ln
  case go =>
    intro A out s H ar us vs Q E hg hr e0 hb rl hsp
    have old : ∀ b o, base.get? b = some o → s.heap.get? b = some o := fun b o e => (e0.bs b o e).1
    have inK : K.In s.heap := e0.mod.kin.keeps old
    have kinds : ∀ y ∈ ps.zip us, scope.names.lookup y.1 = some .local ∨ (scope.names.lookup y.1 = some .cell ∧ ((cellsFrom (s.heap.objs.size + 1) scope.names []).lookup y.1).isSome = true) := by
      rintro ⟨n, v⟩ hy
      rcases S.par n (List.of_mem_zip hy).1 with z | z
      · exact Or.inl z
      · exact Or.inr ⟨z, PySem.W.cellsFrom_some _ _ _ (Or.inl z)⟩
    refine codeAny_call_function hr.depth (inK _ _ lk) rfl S.co S.gen rfl (PySem.W.codeRec_of inK hcd) (hb _ _ _ _ (wpAny_newFunctionEnv_cells S.kind kinds fun env he s1 y => ?_))
    subst he
    refine ⟨(e0.mod.nolimit.keeps old).keeps y.toInCall.keep, codeAny_func ?_⟩
    have start1 : Inv (cxOf C8.CX0 P w K mg base N qual scope f cdv A out s H E) [] (start N vs) H s1 := inv_start S hr.hd e0 (ln _ _ _ _ hsp) rl y
    have body1 := (PSs.nox (dv cdv A out s H E hg (hr.deeper _))).run [] s1 (start N vs) H _ start1 (pu _ _ _ _ hsp)
    refine wpAny_mono body1 (fun fl s2 z => ?_) (fun _ _ z => z)
    cases fl with
    | next =>
      obtain ⟨_, H2, J, q⟩ := z
      exact ⟨V.non, H2, J.os, J.bare, J.base, J.hok, rfl, q⟩
    | ret u =>
      obtain ⟨v, _, H2, J, rv, q⟩ := z
      exact ⟨v, H2, J.os, J.bare, J.base, J.hok, rv, q⟩
    | brk => exact z.elim fun _ y => y.elim fun _ y => y.2.elim
    | cont => exact z.elim fun _ y => y.elim fun _ y => y.2.elim
section
variable {P : Program} {w : World} {K : PySem.W.Frag} {mg mb : Str → Option Value} {k : Nat} {fa a : Addr} {fd : FuncData} {x : Str} {sp : Sp} {s : Shared} {us : List Value} {ns : List Int}
def scrO (us : List Value) : Obj := { cls := .type "list", data := .seq us.toArray }
/-- the law's call, from a heap in which nothing but the script is tracked -/
theorem top_go (H : Hp) (inK : K.In s.heap) (gl : s.heap.Ns mainGlobals mg) (bl : s.heap.Ns builtinsNs mb) (bb : ∀ y : Str, y ≠ "__name__" → mb y = bootBuiltins y) (lim : s.heap.NoLimit) (gs : s.gens = #[]) (scr : s.heap.get? a = some (scrO us)) (rm : Room k callerA)
    (G : ∀ base : Heap, K.In base → base.Ns mainGlobals mg → FnG P w K mg base k fa fd [x] sp) (bd : ∀ (s : Shared) (u : Value), BindsTo s fd ⟨[u], []⟩ [(x, u)])
    (tr : ∀ b u, H b = some u → b = a ∧ u = .frz (scrO us) (.lst (ns.map V.int)) ∧ K.lookup a = none) (hok : HOk P w H s.heap) (wish : sp [.ref a] H (fun v _ => v = .bl true) fun _ _ _ => False) :
    codeAny (model P w) callerA (.call (.ref fa) ⟨[.ref a], []⟩) (fun r s' => r = .ok (.ret (.bool true)) ∧ OldK s.heap s'.heap ∧ s'.os = s.os ∧ AllBare s'.gens) s := by
  -- what is not the script stays to be seen
  have seen : ∀ {b : Addr} {o : Obj}, s.heap.get? b = some o → b ≠ a ∨ K.lookup a ≠ none → (hidT s.heap H).get? b = some o := by
    intro b o e d
    refine hidT_get e ?_
    rcases hb : H b with _ | u
    · rfl
    · obtain ⟨e1, _, e3⟩ := tr b u hb
      rcases d with d | d
      · exact (d e1).elim
      · exact (d e3).elim
  have noDict : ∀ {b : Addr} {m : Str → Option Value}, s.heap.Ns b m → (hidT s.heap H).Ns b m := by
    rintro b m ⟨o, es, ep, e, d, r⟩
    refine ⟨o, es, ep, seen e (Or.inl ?_), d, r⟩
    rintro rfl
    rw [scr] at e
    obtain rfl := Option.some.inj e
    exact nomatch (show Data.seq us.toArray _ = Data.dict es ep from d)
  have inB : K.In (hidT s.heap H) := by
    intro b o e
    refine seen (inK b o e) ?_
    by_cases q : b = a
    · rw [q] at e
      exact Or.inr (by rw [e]; exact fun z => nomatch z)
    · exact Or.inl q
  have limB : (hidT s.heap H).NoLimit := by
    obtain ⟨mc, l1, l2⟩ := lim
    exact ⟨mc, noDict l1, l2⟩
  have envT : Env0 P w K mg (hidT s.heap H) callerA [] s H := {
    frames := rfl
    mod := ⟨inB, noDict gl, ⟨mb, noDict bl, bb⟩, limB⟩
    bs := fun _ _ e => of_hidT e
    bsz := Nat.le_of_eq (hidT_size _ _)
    funs := trivial
    frf := fun b z => nomatch (show b ∈ ([] : List Addr) from z)
    hok := hok
    bare := .of_eq gs }
  have ran := (G _ inB (noDict gl)).go callerA [] s H ⟨[.ref a], []⟩ [.ref a] [.ref a] _ _ rfl rm envT (bd s (.ref a)) (.cons rfl .nil) wish
  refine codeAny_mono ran fun r s' z => ?_
  match r, z with
  | .ok (.ret u), ⟨v, H', os, bare, un, hok2, rv, q⟩ =>
    obtain rfl : v = .bl true := q
    obtain rfl : u = Value.bool true := rv
    refine ⟨rfl, OldK.of_keep fun b o e => ?_, os, bare⟩
    rcases hb : H b with _ | u
    · exact un.keep b o e hb (fun z => nomatch (show b ∈ ([] : List Addr) from z)) (fun z => nomatch z)
    · obtain ⟨_, e2, _⟩ := tr b u hb
      rw [e2] at hb
      have e3 := (hok b _ hb).1
      rw [e] at e3
      rw [Option.some.inj e3]
      exact (hok2 b _ (un.frzs b (scrO us) _ hb)).1
  | .ok .next, z => exact z.elim
  | .ok .brk, z => exact z.elim
  | .ok .cont, z => exact z.elim
  | .error e, z => exact z.elim
theorem top_goS (inK : K.In s.heap) (gl : s.heap.Ns mainGlobals mg) (bl : s.heap.Ns builtinsNs mb) (bb : ∀ y : Str, y ≠ "__name__" → mb y = bootBuiltins y) (lim : s.heap.NoLimit) (gs : s.gens = #[]) (scr : s.heap.get? a = some (scrO us)) (hi : IntsAre us ns) (hl : ns.length ≤ sizeLine) (rm : Room k callerA)
    (G : ∀ base : Heap, K.In base → base.Ns mainGlobals mg → FnG P w K mg base k fa fd [x] sp) (bd : ∀ (s : Shared) (u : Value), BindsTo s fd ⟨[u], []⟩ [(x, u)])
    (wish : ∀ H : Hp, SqL K H a (ns.map V.int) → sp [.ref a] H (fun v _ => v = .bl true) fun _ _ _ => False) :
    codeAny (model P w) callerA (.call (.ref fa) ⟨[.ref a], []⟩) (fun r s' => r = .ok (.ret (.bool true)) ∧ OldK s.heap s'.heap ∧ s'.os = s.os ∧ AllBare s'.gens) s := by
  have rv : Vals (ns.map V.int) us := vals_ints hi
  rcases ek : K.lookup a with _ | o
  · refine top_go (ns := ns) (fun b => if b = a then some (.frz (scrO us) (.lst (ns.map V.int))) else none) inK gl bl bb lim gs scr rm G bd (fun b u z => ?_) (fun b u z => ?_) (wish _ (Or.inl (Or.inr ⟨scrO us, if_pos rfl⟩)))
    · by_cases q : b = a
      · exact ⟨q, (Option.some.inj ((if_pos q).symm.trans z)).symm, ek⟩
      · exact nomatch (if_neg q).symm.trans z
    · by_cases q : b = a
      · obtain rfl := Option.some.inj ((if_pos q).symm.trans z)
        rw [q]
        exact ⟨scr, by rw [List.length_map]; exact hl, us, _, rv, scr⟩
      · exact nomatch (if_neg q).symm.trans z
  · have eo := inK a o ek
    rw [scr] at eo
    obtain rfl := Option.some.inj eo
    have ll : us.toArray.size ≤ sizeLine := by
      rw [List.size_toArray, hi.length]
      exact hl
    exact top_go (ns := ns) (fun _ => none) inK gl bl bb lim gs scr rm G bd (fun _ _ z => nomatch z) (fun _ _ z => nomatch z) (wish _ (Or.inr ⟨scrO us, us.toArray, _, ek, rfl, rfl, rfl, ll, by rw [List.toList_toArray]; exact rv⟩))
end
/-- a law whose def keeps its promise where no repr is under way -/
theorem walk_G {l : PySem.W.OpenLaw} {n k : Nat} {q : Program} {loose : List Str} {XP : (Str → Option Value) → Heap → Prop} {YP : World → Heap → Prop} {d : DefRec} {x : Str} (hn : l.most = some n) (hn2 : n ≤ sizeLine) (hdf : d.params.defaults = []) (rm : Room k callerA)
    (G : ∀ (w : World) (mg : Str → Option Value) (fa : Addr) (h : Heap), YP w h → h.Ns mainGlobals mg → mg d.name = some (.ref fa) → ∃ (K : PySem.W.Frag) (fd : FuncData) (sp : Sp), K.In h ∧ (∀ (s : Shared) (u : Value), BindsTo s fd ⟨[u], []⟩ [(x, u)]) ∧
      (∀ (H : Hp) (a : Addr) (ns : List Int), ns.length ≤ n → SqL K H a (ns.map V.int) → sp [.ref a] H (fun v _ => v = .bl true) fun _ _ _ => False) ∧ ∀ base : Heap, K.In base → base.Ns mainGlobals mg → FnG l.prog w K mg base k fa fd [x] sp) :
    PySem.W.WalkO q loose XP YP l.row.toRowW d [] (fun f vs => PySem.call f vs) :=
  Att.attach_call hn hdf fun w s₀ s₁ mg mb fa o pm cd doc a vs ns g Y _ _ _ hmg hobj hints hlen hg => by
    obtain ⟨K, fd, sp, inK, bd, wish, F⟩ := G w mg fa _ Y g.T.g hmg
    exact top_goS inK g.T.g g.T.b g.T.builtins g.T.nolimit hg hobj hints (Nat.le_trans hlen hn2) rm F bd fun H hS => wish H a ns hlen hS
end SL
end

section
set_option Elab.async false
set_option linter.all false
set_option maxRecDepth 100000
/-! ## SL16: bounds of data for repr; a comprehension over a range from any number -/
namespace SL
open PySem PySem.Spec PyProof.Rows L2
theorem run_ok {k : Nat} {A : Around} (h : Room k A) : A.units + 100 < cLine := by
  have := h.un
  omega
/-- data that repr takes: depth, weight -/
structure Rk (n w : Nat) (d : PyData) : Prop where
  lay : d.canLay0 = true
  dep : d.depth ≤ n
  wt : d.weight ≤ w
  ok : okI d = true
structure RkA (n w : Nat) (ds : List PyData) : Prop where
  lay : PyData.canLayAll0 ds = true
  dep : PyData.depthAll ds ≤ n
  wt : PyData.weightAll ds ≤ w
  ok : okIs ds = true
theorem rk_bl {n w : Nat} {b : Bool} : Rk n (w + 1) (.bool b) := ⟨by simp only [PyData.canLay0], by simp only [PyData.depth]; omega, by simp only [PyData.weight]; omega, by simp only [okI]⟩
theorem rk_non {n w : Nat} : Rk n (w + 1) .none := ⟨by simp only [PyData.canLay0], by simp only [PyData.depth]; omega, by simp only [PyData.weight]; omega, by simp only [okI]⟩
theorem rk_int {n w : Nat} {i : Int} (h : i.natAbs < 10 ^ 12) : Rk n (w + 50) (.int i) := by
  refine ⟨by simp only [PyData.canLay0], by simp only [PyData.depth]; omega, ?_, by simp only [okI, decide_eq_true_eq]; exact h⟩
  have e : (PyData.int i).weight ≤ 50 := by
    simp only [PyData.weight]
    by_cases h0 : i.natAbs = 0
    · simp [h0]
      split <;> omega
    · have h3 : i.natAbs.log2 < 40 := (Nat.log2_lt h0).mpr (Nat.lt_of_lt_of_le h (by decide))
      split <;> omega
  omega
theorem rk_str {n w : Nat} {x : Str} (h : (PyData.str x).canLay0 = true) (hw : x.cps.size ≤ w) : Rk n w (.str x) := ⟨h, by simp only [PyData.depth]; omega, by simp only [PyData.weight]; omega, by simp only [okI]⟩
theorem rkA_nil {n w : Nat} : RkA n w [] := ⟨by simp only [PyData.canLayAll0], by simp only [PyData.depthAll]; omega, by simp only [PyData.weightAll]; omega, by simp only [okIs]⟩
theorem rkA_cons {n w u : Nat} {d : PyData} {ds : List PyData} (h : Rk n w d) (t : RkA n u ds) : RkA n (w + 1 + u) (d :: ds) := by
  refine ⟨?_, ?_, ?_, ?_⟩
  · simp only [PyData.canLayAll0, h.lay, t.lay, Bool.and_self]
  · have := h.dep
    have := t.dep
    simp only [PyData.depthAll]
    omega
  · have := h.wt
    have := t.wt
    simp only [PyData.weightAll]
    omega
  · simp only [okIs, h.ok, t.ok, Bool.and_self]
theorem rkA_map {α : Type} {n w m : Nat} {g : α → PyData} {xs : List α} (h : ∀ x ∈ xs, Rk n w (g x)) (hl : xs.length ≤ m) : RkA n ((w + 1) * m) (xs.map g) := by
  have main : ∀ xs : List α, (∀ x ∈ xs, Rk n w (g x)) → RkA n ((w + 1) * xs.length) (xs.map g) := by
    intro xs
    induction xs with
    | nil => exact fun _ => rkA_nil
    | cons x xs ih =>
      intro h
      have q := rkA_cons (h x (List.mem_cons_self ..)) (ih fun y hy => h y (List.mem_cons_of_mem _ hy))
      have e : w + 1 + (w + 1) * xs.length = (w + 1) * (x :: xs).length := by rw [List.length_cons, Nat.mul_succ]; omega
      rw [e] at q
      exact q
  have q := main xs h
  exact ⟨q.lay, q.dep, Nat.le_trans q.wt (Nat.mul_le_mul_left _ hl), q.ok⟩
theorem rk_list {n w : Nat} {ds : List PyData} (h : RkA n w ds) : Rk (n + 1) w (.list ds) := ⟨by simp only [PyData.canLay0, h.lay], by have := h.dep; simp only [PyData.depth]; omega, by have := h.wt; simp only [PyData.weight]; omega, by simp only [okI, h.ok]⟩
theorem rk_tup {n w : Nat} {ds : List PyData} (h : RkA n w ds) : Rk (n + 1) w (.tuple ds) := ⟨by simp only [PyData.canLay0, h.lay], by have := h.dep; simp only [PyData.depth]; omega, by have := h.wt; simp only [PyData.weight]; omega, by simp only [okI, h.ok]⟩
theorem g_repr {K : PySem.W.Frag} {H : Hp} {Q : VK} {a : Addr} {d : PyData} {n w : Nat} (h : Dp K H (.ref a) d) (r : Rk n w d) (hn : n ≤ 60) (hw : w ≤ 2 ^ 20) (k : Q (.str d.shown) H) : rRepr K [.ref a] H Q := ⟨a, d, rfl, h, ⟨r.lay, Nat.le_trans r.dep hn, Nat.le_trans r.wt hw, r.ok⟩, k⟩
section
variable {K : PySem.W.Frag} {H : Hp} {F : List Atom} {Q : VK} {σ : L2.St} {vs : List Nat} {t : TT} {te : TE}
/-- all items of a range -/
theorem comp_rangeL {lo : Int} {n : Nat} {g : TG} (f : Nat → V) (σ0 : L2.St) (hn : n ≤ 1000000) (hw : wipe σ vs = σ0) (z : Own H F)
    (hs : ∀ (i : Nat) (G : Atom) H' (Y : VK) (N : Hp → Prop), i < n → Own H' (G :: F) → (∀ H4, Own H4 (G :: F) → Y (f i) H4) → g (.int (lo + (i : Int))) σ0 H' (kWp vs σ0 t te Y N))
    (hd : ∀ D H', Own H' (pt D (.lst ((List.range n).map f)) :: F) → Q (.ref D) H') : kLc g t te vs σ Q (Itr lo n) H := by
  subst hw
  intro D hD
  refine lc_range (lo := lo) (n := n) (fun i H' => Own H' (pt D (.lst ((List.range i).map f)) :: F)) (own_new z hD) (fun i H' hi w => ?_) (fun H' w => hd D H' w)
  exact hs i _ H' _ _ hi w fun H4 x => ⟨_, own_pt x, size_of (by rw [List.length_map, List.length_range]; omega), by rw [List.range_succ, List.map_append]; exact own_set x rfl⟩
end
/-! slices and sums of tuples -/
section
variable {K : PySem.W.Frag} {H : Hp} {F : List Atom} {Q : VK} {a b : Addr} {i : Int} {xs ys : List V}
theorem hd_slT {x : V} {lo hi : Option Int} (k : rSlT K x lo hi H Q) : rSlT K x lo hi H Q := k
theorem own_slT {lo hi : Option Int} (h : H a = some (.tup xs)) (z : Own H F) (w : ¬ (HT.sIx xs.length 0 lo = 0 ∧ HT.sIx xs.length xs.length hi = xs.length)) (e : cut xs lo hi = ys) (k : ∀ q H1, Own H1 (pt q (.tup ys) :: F) → Q (.ref q) H1) : rSlT K (.ref a) lo hi H Q := by
  subst e
  exact ⟨a, xs, rfl, SqT.of h, w, fun q nq => k q _ (own_new z nq)⟩
theorem g_slTT (h : H a = some (.tup xs)) (z : Own H F) (hp : 0 ≤ i ∧ i < xs.length) (k : ∀ q H1, Own H1 (pt q (.tup (xs.take i.toNat)) :: F) → Q (.ref q) H1) : rSlT K (.ref a) none (some i) H Q :=
  own_slT h z (fun q => by have := q.2; rw [sIx_pos hp.1] at this; omega) (cut_take hp.1) k
theorem g_slTD (h : H a = some (.tup xs)) (z : Own H F) (hp : 0 < i ∧ 0 < xs.length) (k : ∀ q H1, Own H1 (pt q (.tup (xs.drop i.toNat)) :: F) → Q (.ref q) H1) : rSlT K (.ref a) (some i) none H Q :=
  own_slT h z (fun q => by have := q.1; rw [sIx_pos (by omega)] at this; omega) (cut_drop (by omega)) k
end
end SL
end

section
set_option Elab.async false
set_option linter.all false
set_option maxRecDepth 100000
/-! ## SL17: dicts whose keys are a fixed list of texts -/
namespace SL
open PySem PySem.Spec L2
/-- keys and values -/
def kvT (ks : List Str) (vs : List V) : List (Key × V) := (ks.map Sum.inr).zip vs
theorem kvT_get : ∀ {ks : List Str} {vs : List V} {i : Nat} {k : Str} {v : V}, ks.Nodup → ks[i]? = some k → vs[i]? = some v → valV (kvT ks vs) (.inr k) = some v
  | [], _, _, _, _, _, h, _ => by simp at h
  | _ :: _, [], _, _, _, _, _, h => by simp at h
  | a :: ks, b :: vs, 0, k, v, _, h1, h2 => by
    cases h1
    cases h2
    unfold valV kvT
    rw [List.map_cons, List.zip_cons_cons, List.find?_cons_of_pos (by simp)]
    rfl
  | a :: ks, b :: vs, i + 1, k, v, nd, h1, h2 => by
    have n := List.nodup_cons.mp nd
    have h1' : ks[i]? = some k := h1
    have h2' : vs[i]? = some v := h2
    have hne : a ≠ k := fun e => n.1 (e ▸ List.mem_of_getElem? h1')
    have q := kvT_get n.2 h1' h2'
    unfold valV kvT at q ⊢
    rw [List.map_cons, List.zip_cons_cons, List.find?_cons_of_neg (by simpa using hne)]
    exact q
theorem kvT_map : ∀ {ks : List Str} {vs : List V} {i : Nat} {k : Str} (v : V), ks.Nodup → ks.length = vs.length → ks[i]? = some k → (kvT ks vs).map (fun kv => if kv.1 = Sum.inr k then (kv.1, v) else kv) = kvT ks (vs.set i v)
  | [], _, _, _, _, _, _, h => by simp at h
  | _ :: _, [], _, _, _, _, l, _ => by simp at l
  | a :: ks, b :: vs, 0, k, v, nd, l, h1 => by
    cases h1
    have n := List.nodup_cons.mp nd
    unfold kvT
    rw [List.map_cons, List.zip_cons_cons, List.map_cons, List.set_cons_zero, List.zip_cons_cons]
    congr 1
    · rw [if_pos rfl]
    · refine (List.map_congr_left fun q hq => ?_).trans (List.map_id _)
      have hm := (List.of_mem_zip hq).1
      rw [if_neg]
      · rfl
      · intro e
        rw [e] at hm
        obtain ⟨y, hy, e2⟩ := List.mem_map.mp hm
        exact n.1 (Sum.inr.inj e2 ▸ hy)
  | a :: ks, b :: vs, i + 1, k, v, nd, l, h1 => by
    have n := List.nodup_cons.mp nd
    have h1' : ks[i]? = some k := h1
    have hne : a ≠ k := fun e => n.1 (e ▸ List.mem_of_getElem? h1')
    have q := kvT_map v n.2 (by simpa using l) h1'
    unfold kvT at q ⊢
    rw [List.map_cons, List.zip_cons_cons, List.map_cons, List.set_cons_succ, List.zip_cons_cons, q]
    congr 1
    rw [if_neg]
    intro e
    exact hne (Sum.inr.inj e)
theorem kvT_put {ks : List Str} {vs : List V} {i : Nat} {k : Str} {v : V} (nd : ks.Nodup) (l : ks.length = vs.length) (h : ks[i]? = some k) : putK (kvT ks vs) (.inr k) v = kvT ks (vs.set i v) := by
  unfold putK
  rw [if_pos]
  · exact kvT_map v nd l h
  · have hi := (List.getElem?_eq_some_iff.mp h).1
    have hv : i < vs.length := by omega
    refine List.any_eq_true.mpr ⟨(.inr k, vs[i]), ?_, by simp⟩
    unfold kvT
    refine List.mem_of_getElem? (i := i) ?_
    rw [List.getElem?_zip_eq_some]
    refine ⟨?_, List.getElem?_eq_getElem hv⟩
    rw [List.getElem?_map, h]
    rfl
/-- what stands at a key; what a put leaves -/
class Kg (ks : List Str) (vs : List V) (k : Str) (v : outParam V) : Prop where
  h : valV (kvT ks vs) (.inr k) = some v
class Kp (ks : List Str) (vs : List V) (k : Str) (v : V) (us : outParam (List V)) : Prop where
  h : putK (kvT ks vs) (.inr k) v = kvT ks us
  l : vs.length ≤ 100
section
variable {H : Hp} {F : List Atom} {Q : VK} {a : Addr} {ks : List Str} {vs us : List V} {k : Str} {v x : V} {P : L2.St → Hp → Prop} {σ : L2.St}
abbrev dtA (a : Addr) (ks : List Str) (vs : List V) : Atom := pt a (.dK (kvT ks vs))
theorem g_dgetS (w : Own H (dtA a ks vs :: F)) [q : Kg ks vs k v] (k0 : Q v H) : kDG2 (.ref a) Q (.str k) H := by
  refine ⟨a, v, rfl, ?_, k0⟩
  have g := DGet.k (k := Sum.inr k) (own_pt w)
  rw [q.h] at g
  exact g
theorem g_dputS (w : Own H (dtA a ks vs :: F)) [q : Kp ks vs k v us] (k0 : ∀ H1, Own H1 (dtA a ks us :: F) → P σ H1) : kDP3 v (.ref a) σ P (.str k) H := by
  refine ⟨a, _, rfl, DPut.k (k := Sum.inr k) (own_pt w) ?_, k0 _ ?_⟩
  · refine Nat.lt_of_le_of_lt ?_ (size_of (show 100 ≤ 1000000 by decide))
    unfold kvT
    rw [List.length_zip]
    have := q.l
    omega
  · rw [q.h]
    exact own_set w rfl
theorem hd_gunl {K : PySem.W.Frag} {n : Nat} {u1 : TGs} {y : V} (k0 : gUnl K n u1 y σ H P) : gUnl K n u1 y σ H P := k0
theorem g_gunl {K : PySem.W.Frag} {n : Nat} {u1 : TGs} {xs : List V} (h : H a = some (.lst xs)) (l : xs.length = n) (k0 : u1 xs σ H P) : gUnl K n u1 (.ref a) σ H P := ⟨a, xs, rfl, SqL.of h, l, k0⟩
end
end SL
end

section
set_option Elab.async false
set_option linter.all false
set_option maxRecDepth 100000
/-! ## SL18: tuples put together -/
namespace SL
open PySem PySem.Spec L2
section
variable {K : PySem.W.Frag} {H : Hp} {F : List Atom} {Q : VK} {a b : Addr} {xs ys : List V}
theorem hd_catT {x y : V} (k : rCatT K x y H Q) : rCatT K x y H Q := k
theorem g_catT (h : H a = some (.tup xs)) (h2 : H b = some (.tup ys)) (z : Own H F) (hx : xs ≠ []) (s : xs.length + ys.length ≤ 1000) (k : ∀ q H1, Own H1 (pt q (.tup (xs ++ ys)) :: F) → Q (.ref q) H1) : rCatT K (.ref a) (.ref b) H Q :=
  ⟨a, b, xs, ys, rfl, rfl, SqT.of h, SqT.of h2, hx, Nat.le_trans s (by decide), fun e => k a H (by subst e; rw [List.append_nil]; exact per_own (φ := pt a (.tup xs)) ⟨h⟩ pst_tup z), fun _ q nq => k q _ (own_new z nq)⟩
end
/-! dict displays with texts as keys -/
theorem mergeK_nd : ∀ (more acc : List (Key × V)), ((acc ++ more).map (·.1)).Nodup → mergeK acc more = acc ++ more
  | [], acc, _ => (List.append_nil acc).symm
  | kv :: more, acc, h => by
    have e : putK acc kv.1 kv.2 = acc ++ [kv] := by
      unfold putK
      rw [if_neg]
      intro q
      obtain ⟨x, hx, hk⟩ := List.any_eq_true.mp q
      rw [List.map_append, List.map_cons, List.nodup_append] at h
      have h2 := h.2.2 x.1 (List.mem_map_of_mem hx) kv.1 (List.mem_cons_self ..)
      exact h2 (by simpa using hk)
    have h3 := mergeK_nd more (acc ++ [kv]) (by rw [List.append_assoc]; exact h)
    rw [List.append_assoc] at h3
    show mergeK (putK acc kv.1 kv.2) more = _
    rw [e, h3]
    rfl
theorem kvT_nd {ks : List Str} {vs : List V} (l : ks.length = vs.length) (nd : ks.Nodup) : ((kvT ks vs).map (·.1)).Nodup := by
  unfold kvT
  rw [List.map_fst_zip (by rw [List.length_map]; omega)]
  exact List.Pairwise.map _ (fun a b q e => q (Sum.inr.inj e)) nd
class Dk (ps : List (V × V)) (ks : outParam (List Str)) (vs : outParam (List V)) : Prop where
  h : ps = (kvT ks vs).map fun kv => (kV kv.1, kv.2)
  l : ks.length = vs.length
instance : Dk [] [] [] := ⟨rfl, rfl⟩
instance {k : Str} {v : V} {ps : List (V × V)} {ks : List Str} {vs : List V} [d : Dk ps ks vs] : Dk ((.str k, v) :: ps) (k :: ks) (v :: vs) := ⟨by rw [d.h]; rfl, by rw [List.length_cons, List.length_cons, d.l]⟩
def kDisp (p : Addr) (Q : VK) (ps : List (V × V)) (H2 : Hp) : Prop := H2 p = some (.dK []) ∧ ∃ kvs : List (Key × V), ps = kvs.map (fun kv => (kV kv.1, kv.2)) ∧ kvs.length ≤ 15 ∧ Q (.ref p) (upd H2 p (.dK (mergeK [] kvs)))
def kPr3 (x y : V) (PL : List (V × V) → Hp → Prop) (ps : List (V × V)) (H : Hp) : Prop := PL ((x, y) :: ps) H
def kPr2 (r : List (TE × TE)) (σ : L2.St) (PL : List (V × V) → Hp → Prop) (x : V) : VK := fun y H => tPairs r σ H (kPr3 x y PL)
def kPr1 (tv : TE) (r : List (TE × TE)) (σ : L2.St) (PL : List (V × V) → Hp → Prop) : VK := fun x H => tv σ H (kPr2 r σ PL x)
section
variable {H : Hp} {F : List Atom} {Q : VK} {p : Addr} {x y : V} {trs : List (TE × TE)} {tk tv : TE} {σ : L2.St} {PL : List (V × V) → Hp → Prop} {ps : List (V × V)} {ks : List Str} {vs : List V}
theorem g_disp (w : Own H F) (k : ∀ p H1, Own H1 (pt p (.dK []) :: F) → tPairs trs σ H1 (kDisp p Q)) : tDisp trs σ H Q := fun p nq => k p _ (own_new w nq)
theorem g_pnil (k : PL [] H) : tPairs [] σ H PL := k
theorem g_pcons (k : tk σ H (kPr1 tv trs σ PL)) : tPairs ((tk, tv) :: trs) σ H PL := k
theorem g_pr1 (k : tv σ H (kPr2 trs σ PL x)) : kPr1 tv trs σ PL x H := k
theorem g_pr2 (k : tPairs trs σ H (kPr3 x y PL)) : kPr2 trs σ PL x y H := k
theorem g_pr3 (k : PL ((x, y) :: ps) H) : kPr3 x y PL ps H := k
theorem g_dispE [d : Dk ps ks vs] (w : Own H (pt p (.dK []) :: F)) (nd : ks.Nodup) (hl : ks.length ≤ 15) (k : ∀ H1, Own H1 (dtA p ks vs :: F) → Q (.ref p) H1) : kDisp p Q ps H := by
  refine ⟨own_pt w, kvT ks vs, d.h, ?_, ?_⟩
  · unfold kvT
    rw [List.length_zip, List.length_map]
    omega
  · rw [mergeK_nd _ _ (by rw [List.nil_append]; exact kvT_nd d.l nd), List.nil_append]
    exact k _ (own_set w rfl)
end
end SL
end

section
set_option Elab.async false
set_option linter.all false
set_option maxRecDepth 100000
/-! ## SL19: x in a list of ints, sorted ints -/
namespace SL
open PySem PySem.Spec L2
section
variable {K : PySem.W.Frag} {H : Hp} {F : List Atom} {Q : VK} {a : Addr} {x : Int} {xs : List Int}
theorem inV_int (x : Int) (xs : List Int) : inV (.int x) (xs.map V.int) = decide (x ∈ xs) := by
  unfold inV
  rw [List.any_map]
  by_cases h : x ∈ xs
  · rw [decide_eq_true h]
    exact List.any_eq_true.mpr ⟨x, h, by show (x == x) = true; simp⟩
  · rw [decide_eq_false h]
    refine List.any_eq_false.mpr fun y hy => ?_
    show ¬ (y == x) = true
    intro e
    exact h (beq_iff_eq.mp e ▸ hy)
theorem flat_ints (xs : List Int) : (xs.map V.int).all flatV = true := by
  rw [List.all_map]
  exact List.all_eq_true.mpr fun _ _ => rfl
theorem hd_in {neg : Bool} {u v : V} (k : rIn K neg u v H Q) : rIn K neg u v H Q := k
theorem g_inI (h : H a = some (.lst (xs.map V.int))) (k : Q (.bl (decide (x ∈ xs))) H) : rIn K false (.int x) (.ref a) H Q :=
  ⟨a, _, rfl, .inl (SqL.of h), rfl, flat_ints xs, by rw [inV_int]; exact k⟩
theorem g_notInI (h : H a = some (.lst (xs.map V.int))) (k : Q (.bl (!decide (x ∈ xs))) H) : rIn K true (.int x) (.ref a) H Q :=
  ⟨a, _, rfl, .inl (SqL.of h), rfl, flat_ints xs, by rw [inV_int]; exact k⟩
theorem hd_sortI {vs : List V} (k : rSortedI K vs H Q) : rSortedI K vs H Q := k
theorem g_sortI (h : H a = some (.lst (xs.map V.int))) (z : Own H F) (k : ∀ ys : List Int, ys.Perm xs → ys.Pairwise (· ≤ ·) → ∀ q H1, Own H1 (pt q (.lst (ys.map V.int)) :: F) → Q (.ref q) H1) : rSortedI K [.ref a] H Q :=
  ⟨a, xs, rfl, SqL.of h, fun ys p h1 h2 nq => k ys h1 h2 p _ (own_new z nq)⟩
end
end SL
end

section
set_option Elab.async false
set_option linter.all false
set_option maxRecDepth 100000
/-! ## SL20: x in data of any depth, x in texts -/
namespace SL
open PySem PySem.Spec L2
theorem inD_ok {k : Nat} {A : Around} (h : Room k A) : A.units + 65 < cLine := by
  have := h.un
  omega
section
variable {K : PySem.W.Frag} {H : Hp} {F : List Atom} {Q : VK} {a : Addr} {x y : V}
theorem hd_inD (k : rInD K x y H Q) : rInD K x y H Q := k
theorem hd_notInD (k : rNotInD K x y H Q) : rNotInD K x y H Q := k
theorem any_dat {α : Type} [D : Dat α] [DecidableEq α] (u : α) (ws : List α) : ((ws.map D.d).any fun z => PyData.eqv z (D.d u)) = decide (u ∈ ws) := by
  rw [List.any_map]
  by_cases q : u ∈ ws
  · rw [decide_eq_true q]
    exact List.any_eq_true.mpr ⟨u, q, Dat.self u⟩
  · rw [decide_eq_false q]
    refine List.any_eq_false.mpr fun y hy => ?_
    show ¬ PyData.eqv (D.d y) (D.d u) = true
    intro e
    exact q (D.inj _ _ e ▸ hy)
theorem g_inDD {α : Type} [D : Dat α] [DecidableEq α] {u : α} {ws : List α} (h1 : Is K H x u) (h2 : Is K H y ws) (hn : D.n ≤ 60) (k : Q (.bl (decide (u ∈ ws))) H) : rInD K x y H Q :=
  ⟨D.d u, ws.map D.d, h1, h2, D.shaped (by omega) u, Dat.shaped (α := List α) (show D.n + 1 ≤ 64 by omega) ws, by rw [any_dat]; exact k⟩
theorem g_notInDD {α : Type} [D : Dat α] [DecidableEq α] {u : α} {ws : List α} (h1 : Is K H x u) (h2 : Is K H y ws) (hn : D.n ≤ 60) (k : Q (.bl (!decide (u ∈ ws))) H) : rNotInD K x y H Q :=
  ⟨D.d u, ws.map D.d, h1, h2, D.shaped (by omega) u, Dat.shaped (α := List α) (show D.n + 1 ≤ 64 by omega) ws, by rw [any_dat]; exact k⟩
/-- texts of a display -/
class Sl (vs : List V) (xs : outParam (List Str)) : Prop where
  h : vs = xs.map V.str
instance : Sl [] [] := ⟨rfl⟩
instance {z : Str} {vs : List V} {xs : List Str} [q : Sl vs xs] : Sl (V.str z :: vs) (z :: xs) := ⟨by rw [q.h] <;> rfl⟩
theorem inV_str (z : Str) (xs : List Str) : inV (.str z) (xs.map V.str) = decide (z ∈ xs) := by
  unfold inV
  rw [List.any_map]
  by_cases h : z ∈ xs
  · rw [decide_eq_true h]
    exact List.any_eq_true.mpr ⟨z, h, by show (z == z) = true; exact beq_self_eq_true z⟩
  · rw [decide_eq_false h]
    refine List.any_eq_false.mpr fun y hy => ?_
    show ¬ (y == z) = true
    intro e
    exact h (eq_of_beq e ▸ hy)
theorem flat_strs (xs : List Str) : (xs.map V.str).all flatV = true := by
  rw [List.all_map]
  exact List.all_eq_true.mpr fun _ _ => rfl
theorem g_inS {z : Str} {vs : List V} {xs : List Str} (h : H a = some (.lst vs)) [s : Sl vs xs] (k : Q (.bl (decide (z ∈ xs))) H) : rIn K false (.str z) (.ref a) H Q := by
  have e := s.h
  subst e
  exact ⟨a, _, rfl, .inl (SqL.of h), rfl, flat_strs xs, by rw [inV_str]; exact k⟩
theorem g_notInS {z : Str} {vs : List V} {xs : List Str} (h : H a = some (.lst vs)) [s : Sl vs xs] (k : Q (.bl (!decide (z ∈ xs))) H) : rIn K true (.str z) (.ref a) H Q := by
  have e := s.h
  subst e
  exact ⟨a, _, rfl, .inl (SqL.of h), rfl, flat_strs xs, by rw [inV_str]; exact k⟩
theorem g_inST {z : Str} {vs : List V} {xs : List Str} (h : H a = some (.tup vs)) [s : Sl vs xs] (k : Q (.bl (decide (z ∈ xs))) H) : rIn K false (.str z) (.ref a) H Q := by
  have e := s.h
  subst e
  exact ⟨a, _, rfl, .inr (SqT.of h), rfl, flat_strs xs, by rw [inV_str]; exact k⟩
theorem g_notInST {z : Str} {vs : List V} {xs : List Str} (h : H a = some (.tup vs)) [s : Sl vs xs] (k : Q (.bl (!decide (z ∈ xs))) H) : rIn K true (.str z) (.ref a) H Q := by
  have e := s.h
  subst e
  exact ⟨a, _, rfl, .inr (SqT.of h), rfl, flat_strs xs, by rw [inV_str]; exact k⟩
end
section
variable {K : PySem.W.Frag} {H : Hp} {F : List Atom} {Q : VK} {σ : L2.St} {vs : List Nat} {t : TT} {te : TE} {β : Type} {S : Addr → β → Atom}
/-- [make(i) for i in range(n)]: the thing at i is f i -/
theorem comp_rangeF {g : TG} {n : Nat} (f : Nat → β) (σ0 : L2.St) (hn : n ≤ 1000000) (hw : wipe σ vs = σ0) (z : Own H F)
    (hs : ∀ (i : Nat) (G : Atom) H' (Y : VK) (N : Hp → Prop), i < n → Own H' (G :: F) → (∀ r H4, Own H4 (S r (f i) :: G :: F) → Y (.ref r) H4) → g (.int (i : Int)) σ0 H' (kWp vs σ0 t te Y N))
    (hd : ∀ rs D H', Own H' (pt D (.lst (rs.map V.ref)) :: bgA S rs ((List.range n).map f) :: F) → Q (.ref D) H') : kLc g t te vs σ Q (Itr 0 n) H := by
  refine comp_range σ0 hn hw (fun i acc => acA S acc ((List.range i).map f) :: F) ?_ ?_ ?_
  · exact (bg_nil (S := S) z).mono1 fun _ q => ⟨[], rfl, q⟩
  · intro i acc G H' Y N hi _ w hY hN
    have w2 := own_out (cs := [acA S acc ((List.range i).map f), G]) (own_p1 w)
    refine hs i _ H' Y N hi w2 fun r H4 w4 => hY _ _ ?_
    have w5 := Own.cons_mono w4 fun _ z => own_in z
    have w6 := ac_snoc w5
    rw [List.range_succ, List.map_append]
    exact own_p1 w6
  · intro acc D H' _ w
    obtain ⟨rs, e, w⟩ := ac_open (own_p1 w)
    subst e
    exact hd rs D H' (own_p1 w)
end
end SL
end

section
set_option Elab.async false
set_option linter.all false
set_option maxRecDepth 100000
set_option maxHeartbeats 4000000
/-! SL21: own exceptions: made, raised, caught, their field read, isinstance; defs that let them out. -/
namespace SL
open PySem PySem.Spec PyProof.Rows L2
/-! ### what the heap says of an exception's class -/
def oexB (K : PySem.W.Frag) (C : Addr) : Bool := match K.lookup C with
  | some ⟨.type "type", _, .cls cd, sl⟩ => (match cd.mro, sl.toList with
    | .ref C' :: bm, [_, _, _, _, some (.builtin n), _] => C' == C && n == "ValueError.__new__" && !cd.hasDel && cd.hasDict && PySem.HandSPX.refsVE bm
    | _, _ => false)
  | _ => false
theorem oexB_ok {K : PySem.W.Frag} {C : Addr} (q : oexB K C = true) : ∃ nm q N bs bm sn sub ab col dd k0 k1 k2 k3 k5, K.lookup C = some (excClassObj nm q C N bs bm true sn sub ab col dd k0 k1 k2 k3 k5 "ValueError.__new__") ∧ PySem.HandSPX.refsVE bm = true := by
  unfold oexB at q
  split at q
  · rename_i dd cd sl ho
    split at q
    · rename_i C' bm k0 k1 k2 k3 n k5 hm hs
      simp only [Bool.and_eq_true, beq_iff_eq, Bool.not_eq_true'] at q
      obtain ⟨⟨⟨⟨rfl, rfl⟩, hdel⟩, hd⟩, hv⟩ := q
      obtain ⟨nm, bs, mro, ns, qn, hdd, sn, sub, ab, col, del⟩ := cd
      dsimp only at hm hdel hd
      subst hm hdel hd
      have hsl : sl = #[k0, k1, k2, k3, some (.builtin "ValueError.__new__"), k5] := by
        obtain ⟨l⟩ := sl
        simp only at hs
        rw [hs]
      subst hsl
      exact ⟨nm, qn, ns, bs, bm, sn, sub, ab, col, dd, k0, k1, k2, k3, k5, ho, hv⟩
    · cases q
  · cases q
def eqOV (a b : Option Value) : Bool := decide (a = b)
/-- the class named x, whose __init__ sets the field f, under the class named t -/
def xcL (K : PySem.W.Frag) (t x f : Str) : List Bool := [oexB K (He.ga K x), He.eqO (PySem.W.findIn K (.ref (He.ga K x)) "__setattr__") (some (some (.builtin "object.__setattr__"))),
  decide (PySem.W.subIn K (.ref (He.ga K x)) (.type "BaseException") = some true), decide (PySem.W.typeIn K (.ref (He.ga K x)) = some (.type "type")), PySem.W.keepIn K (.ref (He.ga K x)),
  He.eqO (PySem.W.findIn K (.ref (He.ga K x)) f) (some none), xfB K (He.ga K x), decide (PySem.W.exmOne K (.ref (He.ga K x)) (.ref (He.ga K x)) = some true),
  He.eqO (PySem.W.specialIn K (.ref (He.ga K t)) "__getattribute__") (some (some (.builtin "type.__getattribute__"))), PySem.W.readsIn K (He.ga K t) (.type "type"),
  (match PySem.W.findCls K (.ref (He.ga K t)) (.type "type") "__init__" with
    | some (.val v) => decide (v = .builtin "ValueError.__init__")
    | _ => false),
  He.eqO (PySem.W.findIn K (.ref (He.ga K x)) "__class__") (some (some (.builtin "object.__class__"))), He.eqO (PySem.W.specialIn K (.builtin "object.__class__") "__get__") (some (some (.builtin "getset_descriptor.__get__"))),
  decide (PySem.W.takesIn K (.builtin "object.__class__") = some true), decide (PySem.W.mroIn K (He.ga K x) (.type "object") = some true), decide (PySem.W.kitOne K (.ref (He.ga K x)) (.ref (He.ga K t)) = some true)]
def xcB (K : PySem.W.Frag) (t x f : Str) : Bool := (xcL K t x f).all id
structure XcF (K : PySem.W.Frag) (t x f : Str) : Prop where
  oex : OexC K (He.ga K x)
  no : PySem.W.findIn K (.ref (He.ga K x)) f = some none
  xf : XfC K (He.ga K x)
  exm : PySem.W.exmOne K (.ref (He.ga K x)) (.ref (He.ga K x)) = some true
  tg : PySem.W.specialIn K (.ref (He.ga K t)) "__getattribute__" = some (some (.builtin "type.__getattribute__"))
  tr : PySem.W.readsIn K (He.ga K t) (.type "type") = true
  tf : PySem.W.findCls K (.ref (He.ga K t)) (.type "type") "__init__" = some (.val (.builtin "ValueError.__init__"))
  cl : PySem.W.findIn K (.ref (He.ga K x)) "__class__" = some (some (.builtin "object.__class__"))
  cg : PySem.W.specialIn K (.builtin "object.__class__") "__get__" = some (some (.builtin "getset_descriptor.__get__"))
  ct : PySem.W.takesIn K (.builtin "object.__class__") = some true
  cm : PySem.W.mroIn K (He.ga K x) (.type "object") = some true
  is : PySem.W.kitOne K (.ref (He.ga K x)) (.ref (He.ga K t)) = some true
theorem xcB_ok {K : PySem.W.Frag} {t x f : Str} (h : xcB K t x f = true) : XcF K t x f := by
  unfold xcB xcL at h
  simp only [List.all_cons, List.all_nil, Bool.and_eq_true, id] at h
  obtain ⟨h1, h2, h3, h4, h5, h6, h7, h8, h9, h10, h11, h12, h13, h14, h15, h16, _⟩ := h
  refine ⟨⟨oexB_ok h1, He.eqO_ok h2, of_decide_eq_true h3, of_decide_eq_true h4, h5⟩, He.eqO_ok h6, xfB_ok h7, of_decide_eq_true h8, He.eqO_ok h9, h10, ?_, He.eqO_ok h12, He.eqO_ok h13, of_decide_eq_true h14, of_decide_eq_true h15, of_decide_eq_true h16⟩
  split at h11
  · rename_i v hv
    rw [hv, of_decide_eq_true h11]
  · cases h11
/-! ### Base.__init__(self, ..), Base a class of the program -/
section
variable {X : Cx} {o e : Expr} {es : List Expr} {ta : TA} {x : Str} {T : Addr} {p p' p1 p2 pos : Pos}
theorem pe_baseI {pl : Sem Bool} (hg : Gl X x) (hm : X.mg x = some (.ref T)) (h1 : PySem.W.specialIn X.K (.ref T) "__getattribute__" = some (some (.builtin "type.__getattribute__"))) (h2 : PySem.W.readsIn X.K T (.type "type") = true)
    (h3 : PySem.W.findCls X.K (.ref T) (.type "type") "__init__" = some (.val (.builtin "ValueError.__init__"))) (ha : PA X (e :: es) ta)
    (hdb : (x == ("__debug__" : Str)) = false := by decide +kernel)
    (hc : eval (.Call (.Attribute (.Name x p1) "__init__" p2) (e :: es) [] pos) X.env = (do
      let ov ← eval (.Name x p1) X.env
      standAt p2.atName
      let (f, first) ← holding [ov] (getMethod ov "__init__" pl)
      callWith pos f first (backTo pos (starEach (e :: es) X.env)) (backToKw pos (keywordEach [] X.env))) := by rfl)
    (he : starEach (e :: es) X.env = (false, eval e X.env) :: starEach es X.env := by rfl) (hpl : (backTo pos (starEach es X.env)).any (·.1) = false := by rfl) :
    PE X (.Call (.Attribute (.Name x p1) "__init__" p2) (e :: es) [] pos) (tVeI X.K ta) := by
  refine ⟨fun pins s σ H Q I h => ?_⟩
  refine PySem.W.methodCall_KW (ld_glob I hg hm ?_ hdb) hc
  refine PySem.W.method_cls I.kIn h1 ?_
  refine PySem.W.cls_value I.kIn h2 h3 (by decide +kernel) ?_
  show wpAny _ _ (callWith pos (Value.builtin "ValueError.__init__") [] (backTo pos (starEach (e :: es) X.env)) []) _ _ _
  refine PyProof.Rows.callWith_method1 (thn (ha.run pos pins _ σ H _ (I.tok _) h) fun us s1 ⟨vs, H1, I1, r1, a, C, ws, ev, hl, T, ea, q⟩ => ?_) he hpl
  subst ev
  cases r1 with
  | @cons _ u0 _ ur ra rw' =>
    obtain rfl : u0 = Value.ref a := ra
    have hlen : ur.length ≤ sizeLine := by
      rw [← Paired.length rw', sizeLine_eq]
      omega
    exact oinit_ok T I1 ea hlen fun s' J => ⟨.non, H1, J, rfl, q⟩
end
/-! ### the __init__ of such a class -/
def tXi (K : PySem.W.Frag) (f m : Str) : TS := tSeq (tDrop (tVeI K (tCons (tVar 0) (tCons (tC (.str m)) tNil)))) (tOst K f (tVar 0) (tVar 1))
def spXi (K : PySem.W.Frag) (f : Str) : Sp := fun vs H Q _ => ∃ a C v, vs = [.ref a, v] ∧ OexC K C ∧ PySem.W.findIn K (.ref C) f = some none ∧ H a = some (exo a C none) ∧ ∀ d, H d = none → d ≠ a → Q .non (upd (upd H d (exd d [(f, v)])) a (exo a C (some d)))
theorem pu_Xi {K : PySem.W.Frag} {f m : Str} {n0 n1 : Str} {vs : List V} {H : Hp} {Q : VK} {E : XK} (h : spXi K f vs H Q E) : tXi K f m (De Q) (start [n0, n1] vs) H := by
  obtain ⟨a, C, v, rfl, T, no, ea, k⟩ := h
  show tSeq _ _ (De Q) [some (.ref a), some v] H
  refine ⟨.ref a, rfl, a, C, [.str m], rfl, by simp, T, ea, ?_⟩
  refine ⟨v, rfl, .ref a, rfl, a, C, rfl, T, no, .inl ⟨ea, fun d nd ne => ?_⟩⟩
  exact k d nd ne
theorem ln_Xi {K : PySem.W.Frag} {f n0 n1 : Str} : ∀ vs H Q E, spXi K f vs H Q E → vs.length = ([n0, n1] : List Str).length := by
  intro vs H Q E h
  obtain ⟨a, C, v, rfl, _⟩ := h
  rfl
/-! ### made and raised -/
def kRz (C : Addr) (f : Str) (E : XK) : VK := fun v H1 => ∀ d, H1 d = none → E (.ref C) (some d) (upd H1 d (.xd [(f, v)]))
def tRz (C : Addr) (f : Str) (W : WX) (te : TE) : TS := fun _ σ H => te σ H (kRz C f fun c d H' => W c d σ H')
theorem PMk.imp {X : Cx} {e : Expr} {t u : L2.St → Hp → XK → Prop} (h : PMk X e t) (i : ∀ σ H Q, u σ H Q → t σ H Q) : PMk X e u := fun pins s σ H Q I x => h pins s σ H Q I (i σ H Q x)
theorem mk_to {K : PySem.W.Frag} {t x f : Str} (T : XcF K t x f) {te : TE} {σ : L2.St} {H : Hp} {Q : XK} (m : ∀ {Q1 Q2 : VK}, (∀ v H1, Q1 v H1 → Q2 v H1) → te σ H Q1 → te σ H Q2) (h : te σ H (kRz (He.ga K x) f Q)) : tMkO (He.ga K x) (spXi K f) [] (tCons te tNil) σ H Q := by
  refine m (fun v H1 q => ?_) h
  refine ⟨by simp, fun a na => ⟨a, _, v, rfl, T.oex, T.no, upd_same, fun d nd ne => ⟨rfl, d, [(f, v)], upd_same, ?_, ?_, ?_⟩⟩⟩
  · rw [upd_ne ne, upd_same]
  · rw [upd_ne ne] at nd
    exact nd
  · rw [upd_ne ne] at nd
    have e : upd (del (upd (upd (upd H1 a (exo a (He.ga K x) none)) d (exd d [(f, v)])) a (exo a (He.ga K x) (some d))) a) d (.xd [(f, v)]) = upd H1 d (.xd [(f, v)]) := by
      funext b
      by_cases hb : b = d
      · rw [hb, upd_same, upd_same]
      · rw [upd_ne hb, upd_ne hb]
        by_cases ha : b = a
        · rw [ha, del_same, na]
        · rw [del_ne ha, upd_ne ha, upd_ne hb, upd_ne ha]
    rw [e]
    exact q d nd
/-- a class of exceptions that may be made by its name -/
structure Xmk (P : Program) (w : World) (K : PySem.W.Frag) (mg : Str → Option Value) (base : Heap) (k : Nat) (t x f : Str) : Prop where
  fc : XcF K t x f
  ex : ∃ (fI : Addr) (fd : FuncData) (ps : List Str), PySem.W.findIn K (.ref (He.ga K x)) "__init__" = some (some (.ref fI)) ∧ PySem.W.typeIn K (.ref fI) = some (.type "function") ∧ FnOk P w K mg base C8.CX0 k fI fd ps (spXi K f) ∧ Binds K fd ps [] ∧ mg x = some (.ref (He.ga K x))
/-- readings that go on as they are told -/
class MonE (te : TE) : Prop where
  m : ∀ {σ : L2.St} {H : Hp} {Q1 Q2 : VK}, (∀ v H1, Q1 v H1 → Q2 v H1) → te σ H Q1 → te σ H Q2
instance {i : Nat} : MonE (tVar i) := ⟨fun i ⟨v, h, q⟩ => ⟨v, h, i _ _ q⟩⟩
instance {v : V} : MonE (tC v) := ⟨fun i q => i _ _ q⟩
instance {te : TE} [M : MonE te] : MonE (tUn rNegI te) := ⟨fun i h => M.m (fun x H1 ⟨n, e, q⟩ => ⟨n, e, i _ _ q⟩) h⟩
section
variable {X : Cx} {k j : Nat} {t x f : Str} {te : TE} {W : WX} {e : Expr} {p pos pos' : Pos}
theorem ps_rz [MonE te] (c : Xmk X.prog X.w X.K X.mg X.base k t x f) (hr : Room j X.A) (hk : k + 1 ≤ j) (hc : X.calm = true) (tk : Takes X W) (hg : Gl X x) (he : PE X e te)
    (hdb : (x == ("__debug__" : Str)) = false := by decide +kernel) (hs : starEach [e] X.env = (false, eval e X.env) :: starEach [] X.env := by rfl) :
    PS X (.Raise (some (.Call (.Name x p) [e] [] pos)) none pos') (tRz (He.ga X.K x) f W te) := by
  obtain ⟨fI, fd, ps, hi, ht, F, b, hm⟩ := c.ex
  exact ps_raise hc tk (PMk.imp (pmk_oex (CX := C8.CX0) c.fc.oex hi ht F (hr.mono hk) b .nil (fun _ _ _ _ _ _ _ z => z.elim) hg hm (pa_cons (hs := hs) he pa_nil) hdb hs) fun σ H Q h => mk_to c.fc MonE.m h)
end
section
variable {C : Addr} {f : Str} {E : XK} {v : V} {H : Hp} {F : List Atom} {W : WX} {te : TE} {D : Ends} {σ : L2.St}
theorem g_rz (h : te σ H (kRz C f fun c d H' => W c d σ H')) : tRz C f W te D σ H := h
theorem g_rzA (z : Own H F) (k : ∀ d H', Own H' (pt d (.xd [(f, v)]) :: F) → E (.ref C) (some d) H') : kRz C f E v H := fun d nd => k d _ (own_new z nd)
end
/-! ### calls of defs that let exceptions out -/
structure CalE (P : Program) (w : World) (K : PySem.W.Frag) (mg : Str → Option Value) (base : Heap) (k : Nat) (x : Str) (sp : Sp) : Prop where
  ex : ∃ (f : Addr) (fd : FuncData) (ps : List Str), FnOk P w K mg base (L2.CX P w) k f fd ps sp ∧ mg x = some (.ref f) ∧ PySem.W.keepIn K (.ref f) = true ∧ Binds K fd ps []
structure MetE (P : Program) (w : World) (K : PySem.W.Frag) (mg : Str → Option Value) (base : Heap) (k : Nat) (C : Addr) (m : Str) (sp : Sp) : Prop where
  ex : ∃ (f : Addr) (fd : FuncData) (ps : List Str), Cls K C ∧ Meth K C m f ∧ FnOk P w K mg base (L2.CX P w) k f fd ps sp ∧ Binds K fd ps []
/-- what is let out goes to W -/
def tMethE (C : Addr) (m : Str) (sp : Sp) (W : WX) (te : TE) (t : TA) : TE := fun σ H Q => tMeth C m sp [] (WE W σ) te t σ H Q
section
variable {X : Cx} {k j : Nat} {C : Addr} {x m : Str} {sp : Sp} {W : WX} {p pos apos : Pos} {e o : Expr} {es : List Expr} {to : TE} {t : TA}
theorem pe_cE (c : CalE X.prog X.w X.K X.mg X.base k x sp) (hr : Room j X.A) (hk : k ≤ j) (hg : Gl X x) (tk : Takes X W) (ha : PA X (e :: es) t)
    (hdb : (x == ("__debug__" : Str)) = false := by decide) (he : starEach (e :: es) X.env = (false, eval e X.env) :: starEach es X.env := by rfl) (hpl : (backTo pos (starEach es X.env)).any (·.1) = false := by rfl) :
    PE X (.Call (.Name x p) (e :: es) [] pos) (tCallS sp (WE W) t) := by
  obtain ⟨f, fd, ps, F, hm, kp, b⟩ := c.ex
  exact pe_callS F (hr.mono hk) hg hm kp b (fun σ => passAt tk σ) ha hdb he hpl
theorem pe_mtE {pl : Sem Bool} (c : MetE X.prog X.w X.K X.mg X.base k C m sp) (hr : Room j X.A) (hk : k ≤ j) (tk : Takes X W) (ho : PE X o to) (ha : PA X (e :: es) t)
    (hst : starEach (e :: es) X.env = (false, eval e X.env) :: starEach es X.env := by rfl) (hpl : (backTo pos (starEach es X.env)).any (·.1) = false := by rfl)
    (ht : eval (.Call (.Attribute o m apos) (e :: es) [] pos) X.env = (do
      let ov ← eval o X.env
      standAt apos.atName
      let (f, first) ← holding [ov] (getMethod ov m pl)
      callWith pos f first (backTo pos (starEach (e :: es) X.env)) (backToKw pos (keywordEach [] X.env))) := by rfl) :
    PE X (.Call (.Attribute o m apos) (e :: es) [] pos) (tMethE C m sp W to t) := by
  obtain ⟨f, fd, ps, hc, hm, F, b⟩ := c.ex
  refine ⟨fun pins s σ H Q I h => ?_⟩
  refine PySem.W.methodCall_KW (pl := pl) (thn (ho.run pins s σ H _ I h) fun u s1 ⟨x, H1, I1, rx, a, dx, fs, ex, ea, l, q⟩ => ?_) ht
  subst ex
  obtain rfl : u = Value.ref a := rx
  refine getmeth_ok I1 ea hc hm l ?_
  refine PySem.W.callWith_K (first := [.ref a]) (h₀ := X.base) I.ok.mod.kin hm.kp (thn (ha.run pos pins s1 σ H1 _ I1 q) fun us s2 ⟨vs, H2, I2, r, q2⟩ => ⟨I2.kIn, ?_⟩) hst hpl
  have q2 : sp (.ref a :: (vs ++ [])) H2 Q (WE W σ) := q2
  rw [List.append_nil] at q2
  exact run_fnS (E := WE W) (us := .ref a :: us) (vs := .ref a :: vs) F (hr.mono hk) b (passAt tk σ) I2 (.cons rfl r) q2
theorem pe_mtE0 {pl : Sem Bool} (c : MetE X.prog X.w X.K X.mg X.base k C m sp) (hr : Room j X.A) (hk : k ≤ j) (tk : Takes X W) (ho : PE X o to)
    (ht : eval (.Call (.Attribute o m apos) [] [] pos) X.env = (do
      let ov ← eval o X.env
      standAt apos.atName
      let (f, first) ← holding [ov] (getMethod ov m pl)
      callWith pos f first (backTo pos (starEach [] X.env)) (backToKw pos (keywordEach [] X.env))) := by rfl) :
    PE X (.Call (.Attribute o m apos) [] [] pos) (tMethE C m sp W to tNil) := by
  obtain ⟨f, fd, ps, hc, hm, F, b⟩ := c.ex
  refine ⟨fun pins s σ H Q I h => ?_⟩
  refine PySem.W.methodCall_KW (pl := pl) (thn (ho.run pins s σ H _ I h) fun u s1 ⟨x, H1, I1, rx, a, dx, fs, ex, ea, l, q⟩ => ?_) ht
  subst ex
  obtain rfl : u = Value.ref a := rx
  refine getmeth_ok I1 ea hc hm l ?_
  exact PySem.W.callWith_K0 (first := [.ref a]) I1.kIn hm.kp (run_fnS (E := WE W) (us := [.ref a]) (vs := [.ref a]) F (hr.mono hk) b (passAt tk σ) I1 (.cons rfl .nil) q)
theorem g_methE {σ : L2.St} {H : Hp} {Q : VK} (h : tMeth C m sp [] (WE W σ) to t σ H Q) : tMethE C m sp W to t σ H Q := h
end
/-! ### try: body, except x as n: suite -/
def tTry (K : PySem.W.Frag) (C : Addr) (i : Nat) (tb : WX → TS) (ts : Addr → Value → Option Addr → TS) : TS := fun D σ H => tb (wAs K (.ref C) i ts (fun _ _ _ _ => False) D) D σ H
theorem g_try {K : PySem.W.Frag} {C : Addr} {i : Nat} {tb : WX → TS} {ts : Addr → Value → Option Addr → TS} {a1 a3 a4 : L2.St → Hp → Prop} {a2 : VK} {σ : L2.St} {H : Hp} (hE : PySem.W.exmOne K (.ref C) (.ref C) = some true)
    (k : ∀ W : WX, (∀ d σ' H', (∀ a, H' a = none → ts a (.ref C) (some d) ⟨fun s h => a1 (s.set i none) h, a2, fun s h => a3 (s.set i none) h, fun s h => a4 (s.set i none) h⟩ (σ'.set i (some (.ref a))) H') → W (.ref C) (some d) σ' H') → tb W ⟨a1, a2, a3, a4⟩ σ H) : tTry K C i tb ts ⟨a1, a2, a3, a4⟩ σ H :=
  k _ fun d σ' H' h => ⟨true, hE, fun _ => h, fun z => absurd z (by decide)⟩
/-! ### isinstance of the caught exception -/
theorem kin_classX {prog : Program} {w : World} {A : Around} {E : Value → Shared → Prop} {s : Shared} {K : PySem.W.Frag} {x D : Addr} {ox : Obj} {od : Option Obj} {Q : Option Value → Shared → Prop} (hga : PySem.W.findIn K (.ref D) "__getattribute__" = some (some (.builtin "BaseException.__getattribute__"))) (hgt : PySem.W.findIn K (.ref D) "__getattr__" = some none) (hsub : PySem.W.subIn K (.ref D) (.type "BaseException") = some true)
    (hdct : PySem.W.hasDictIn K D = true) (ha : PySem.W.findIn K (.ref D) "__class__" = some (some (.builtin "object.__class__")))
    (hn : PySem.W.specialIn K (.builtin "object.__class__") "__get__" = some (some (.builtin "getset_descriptor.__get__"))) (htk : PySem.W.takesIn K (.builtin "object.__class__") = some true) (hm : PySem.W.mroIn K D (.type "object") = some true)
    (X : K.In s.heap) (I : PySem.W.InstAt s.heap x ox D od) (h : Q (some (.ref D)) { s with toks := s.toks + 1 }) : wpAny (model prog w) A (getAttr? (.ref x) "__class__") Q E s := by
  have hf : PySem.W.findObj K D od "__class__" = some (.bind (.builtin "getset_descriptor.__get__") (.builtin "object.__class__")) := by
    obtain ⟨cd, hc, _⟩ := PySem.W.any_some hdct
    unfold PySem.W.findObj
    rw [hc, Option.bind_some, ha, Option.bind_some]
    simp [hn, htk]
  obtain ⟨hp, g, d, t, os⟩ := s
  have L0 := I.type (M := model prog w)
  have L1 := PySem.W.looks_findIn (M := model prog w) X hga
  have L2 := PySem.W.looks_findIn (M := model prog w) X hgt
  have L3 := PySem.W.looks_find (M := model prog w) X I hf
  have sub : PySem.W.Looks (model prog w) hp (isInstance (.ref x) (.type "BaseException")) true := L0.andThen (PySem.W.looks_subIn X hsub)
  have hx0 : (false && onTheHeap (Value.builtin "BaseException.__getattribute__")) = false := rfl
  have hx2 : (Value.builtin "BaseException.__getattribute__" == Value.builtin "object.__getattribute__") = false := by decide +kernel
  have hx1 : (onTheHeap (Value.ref D) && Value.builtin "BaseException.__getattribute__" == Value.builtin "object.__getattribute__") = false := by rw [hx2]; rfl
  unfold getAttr? getAttrBy? getAttrBy
  refine wpAny_bind (wpAny_mkText (wpAny_bind (wpAny_attempt (wpAny_holding (wpAny_bind (L0.at (wpAny_bind (L1.at ?_))))))))
  show wpAny _ _ (if (onTheHeap (Value.ref D) && Value.builtin "BaseException.__getattribute__" == Value.builtin "object.__getattribute__") = true then _ else _) _ _ _
  rw [hx1, if_neg Bool.false_ne_true]
  unfold getAttrByItsOwn hookBefore
  refine wpAny_bind ?_
  rw [if_pos (show onTheHeap (Value.ref D) = true from rfl)]
  refine L2.at ?_
  refine wpAny_bind (wpAny_attempt (wpAny_holding ?_))
  unfold callGetattribute
  rw [hx0, if_neg Bool.false_ne_true]
  unfold boundAndCalled
  rw [PySem.F.excAttr_ValueError.ga.bind (.ref x)]
  refine wpAny_bind (wpAny_pure ?_)
  show wpAny _ _ (call (.builtin "BaseException.__getattribute__") [.ref x, .str "__class__" t]) _ _ _
  refine wpAny_call (codeAny_call_builtin PySem.F.excAttr_ValueError.ga.plain PySem.F.entry_bexc_ga ?_)
  refine @PySem.W.check_slot (model prog w) _ _ ⟨hp, g, d, t + 1, os⟩ "BaseException.__getattribute__" "BaseException" "__getattribute__" (.ref x) [.str "__class__" t] [] _ (by decide +kernel) (by decide +kernel) sub (PySem.F.args_bexc_ga (.ref x) (.str "__class__" t)) ?_
  unfold Builtin.«object.__getattribute__»
  refine wpAny_bind (wpAny_of_eq (a := ((Value.ref x : Value), [Value.str "__class__" t])) (by first | rfl | (simp only [slotArgs]; rfl)) ?_)
  refine wpAny_bind (wpAny_pure (wpAny_bind (L0.at (wpAny_bind (L3.at ?_)))))
  show wpAny _ _ (holding [Value.builtin "object.__class__"] (call (.builtin "getset_descriptor.__get__") [.builtin "object.__class__", .ref x, .ref D]) >>= ret) _ _ _
  refine wpAny_bind (wpAny_holding (wpAny_call (PySem.W.class_get (s := ⟨hp, g, d, t + 1, os⟩) (ox := ox) (od := od) X I hm ?_)))
  refine wpAny_pure ?_
  show wpAny _ _ (handedOut (.ref D)) _ _ _
  rw [PySem.W.handedOut_of (v := .ref D) rfl]
  first
    | exact wpAny_pure (wpAny_pure h)
    | exact wpAny_pure h
    | exact wpAny_pure (wpAny_bind (wpAny_pure (wpAny_pure h)))
theorem kitX_exc {K : PySem.W.Frag} {x D : Addr} {ox : Obj} {od : Option Obj} (hga : PySem.W.findIn K (.ref D) "__getattribute__" = some (some (.builtin "BaseException.__getattribute__"))) (hgt : PySem.W.findIn K (.ref D) "__getattr__" = some none) (hsub : PySem.W.subIn K (.ref D) (.type "BaseException") = some true) (hdct : PySem.W.hasDictIn K D = true) (ha : PySem.W.findIn K (.ref D) "__class__" = some (some (.builtin "object.__class__")))
    (hn : PySem.W.specialIn K (.builtin "object.__class__") "__get__" = some (some (.builtin "getset_descriptor.__get__"))) (htk : PySem.W.takesIn K (.builtin "object.__class__") = some true) (hm : PySem.W.mroIn K D (.type "object") = some true) :
    PySem.W.KitX K (.ref x) (.ref D) (fun h => PySem.W.InstAt h x ox D od) where
  ty := fun _ _ _ I => I.type
  it := fun _ _ X _ => by
    obtain ⟨cdD, hcD, _⟩ := PySem.W.any_some hdct
    unfold PySem.W.clsIn at hcD
    split at hcD
    · rename_i c' d' cd' sl' ho
      intro A' Q' E' s' k q
      unfold isType loadHead
      exact wpAny_bind (wpAny_loadPart (k _ _ (X _ _ ho)) (wpAny_pure q))
    · cases hcD
  ne := fun h tp dd its n sl X htp => by
    obtain ⟨cdD, hcD, _⟩ := PySem.W.any_some hdct
    refine Bool.eq_false_iff.mpr fun q => ?_
    have e : D = tp := Value.ref.inj (beq_iff_eq.mp q)
    subst e
    unfold PySem.W.clsIn at hcD
    split at hcD
    · rename_i c' d' cd' sl' ho
      have z := (X _ _ ho).symm.trans htp
      cases z
    · cases hcD
  ca := fun X I k => kin_classX hga hgt hsub hdct ha hn htk hm X I k
/-- isinstance(e, c), e the exception that the suite holds, with its dict -/
def rIsX (K : PySem.W.Frag) (D a : Addr) (cls : Value) (d : Option Addr) : List V → Hp → VK → Prop := fun xs H Q => cls = .ref D ∧ ∃ (dd c : Addr) (fs : List (Str × V)) (b : Bool), d = some dd ∧ H dd = some (.xd fs) ∧ xs = [.ref a, .ref c] ∧ PySem.W.kitOne K (.ref D) (.ref c) = some b ∧ Q (.bl b) H
theorem call_isX {X : Cx} {a : Addr} {t x f : Str} {oe : Obj} {cls : Value} {d : Option Addr} {pn : List (Addr × Obj)} (C : XcF X.K t x f) (hz : Zc cls d oe) (hf : ∃ vs, oe.data = .fields vs) : CallR (X.suite a ((a, oe) :: pn)) (.builtin "isinstance") (rIsX X.K (He.ga X.K x) a cls d) := by
  intro pins s σ H xs us Q I r h
  obtain ⟨ec, dd, c, fs, b, ed, ea, rfl, e, q⟩ := h
  subst ec ed
  cases r with
  | cons rx rr =>
    cases rr with
    | cons rt rr =>
      cases rr
      cases rx
      cases rt
      obtain ⟨hget, _⟩ := I.pin (a, oe) (List.mem_append.mpr (.inl List.mem_cons_self))
      obtain ⟨vs, hv⟩ := hf
      have hx : ObjOk X.prog X.w H s.heap dd (.xd fs) := I.hok dd _ ea
      obtain ⟨mA, hns, _⟩ := hx
      obtain ⟨od, ho, _⟩ := lookIn_ns hns
      have J : PySem.W.InstAt s.heap a oe (He.ga X.K x) (some od) := ⟨hget, hz.1, by unfold PySem.W.notCls; rw [hv] <;> rfl, by rw [hz.2]; exact ho⟩
      exact PySem.W.kia_one (kitX_exc C.xf.ga C.xf.gg C.xf.exC C.xf.hdC C.cl C.cg C.ct C.cm) I.kIn J e (fun z => nomatch z) fun tk => ⟨.bl b, H, I.kept (t' := tk) fun _ _ z => z, rfl, q⟩
section
variable {K : PySem.W.Frag} {t x f : Str} {a d : Addr} {i : Nat} {v : V} {σ : L2.St} {H : Hp} {Q : VK} {fs : List (Str × V)}
theorem g_xf {C : Addr} (hi : σ[i]? = some (some (.ref a))) (e : H d = some (.xd [(f, v)])) (k : Q v H) : tXf a (.ref C) (some d) C f (tVar i) σ H Q :=
  ⟨.ref a, hi, rfl, rfl, d, _, v, rfl, e, by simp [List.lookup], k⟩
theorem g_isX {D c : Addr} {b : Bool} (e : H d = some (.xd fs)) (h : PySem.W.kitOne K (.ref D) (.ref c) = some b) (k : Q (.bl b) H) : rIsX K D a (.ref D) (some d) [.ref a, .ref c] H Q :=
  ⟨rfl, d, c, fs, b, rfl, e, rfl, h, k⟩
end
/-! ### a def that lets exceptions out -/
section
variable {P : Program} {w : World} {K : PySem.W.Frag} {mg : Str → Option Value} {base : Heap} {x qual : Str} {params : Arguments} {body : List Stmt} {scope : Scope} {f : Addr} {fd : FuncData} {N ps : List Str} {k : Nat} {sp : Sp} {t : WX → TS} {kws : List (Str × V)}
theorem fnXE (F : FunD K x qual params body scope [] kws f fd) (S : FnScope N ps scope) (len : ∀ vs H Q E, sp vs H Q E → vs.length = ps.length) (pu : ∀ vs H Q E, sp vs H Q E → t (fun c d _ H => E c d H) (De Q) (start N vs) H)
    (d : ∀ (cdv : Value) (A : Around) (outer : List Env) (s : Shared) (H : Hp) (E : XK) (W : WX), Takes (cxOf (L2.CX P w) P w K mg base N qual scope f cdv A outer s H E) W → Room k (A.deeper (envOfC qual scope s.heap.objs.size f cdv)) → PSs (cxOf (L2.CX P w) P w K mg base N qual scope f cdv A outer s H E) body (t W)) : FnOk P w K mg base (L2.CX P w) (k + 1) f fd ps sp :=
  FunD.ok F S len fun cdv A outer s H vs Q E hr h => ⟨t (fun c d _ H => E c d H), d cdv A outer s H E _ (takes_of rfl rfl rfl rfl) hr, pu vs H Q E h⟩
theorem calE (F : FnOk P w K mg base (L2.CX P w) k f fd ps sp) (m : mg x = some (.ref f)) (kp : PySem.W.keepIn K (.ref f) = true) (b : Binds K fd ps []) : CalE P w K mg base k x sp := ⟨f, fd, ps, F, m, kp, b⟩
theorem metE {C : Addr} {m : Str} (c : Cls K C) (me : Meth K C m f) (F : FnOk P w K mg base (L2.CX P w) k f fd ps sp) (b : Binds K fd ps []) : MetE P w K mg base k C m sp := ⟨f, fd, ps, c, me, F, b⟩
end
end SL
namespace SL
open PySem PySem.Spec PyProof.Rows L2
abbrev W0 : WX := fun _ _ _ _ => False
/-- the raising def's own wish -/
abbrev WD (E : XK) : WX := fun c d _ H => E c d H
class XcI (K : PySem.W.Frag) (t x : Str) (f : outParam Str) : Prop where
  h : XcF K t x f
theorem is_exc {K : PySem.W.Frag} {t x f : Str} [i : XcI K t x f] : PySem.W.kitOne K (.ref (He.ga K x)) (.ref (He.ga K t)) = some true := i.h.is
theorem exm_exc {K : PySem.W.Frag} (t f : Str) {x : Str} [i : XcI K t x f] : PySem.W.exmOne K (.ref (He.ga K x)) (.ref (He.ga K x)) = some true := i.h.exm
/-! ### the head: what is said of the classes of exceptions, too -/
def chX (xs : List (Str × Str × Str)) (K : PySem.W.Frag) : Bool := xs.all fun q => xcB K q.1 q.2.1 q.2.2
structure SaysX (xs : List (Str × Str × Str)) (fa : List He.Fa) (fn : List He.DefD) (K : PySem.W.Frag) : Prop where
  d : He.SaysD fa fn K
  x : chX xs K = true
section
variable {xs : List (Str × Str × Str)} {fa : List He.Fa} {fn : List He.DefD} {K : PySem.W.Frag}
theorem SaysX.fact (c : SaysX xs fa fn K) (i : Nat) {f : He.Fa} (h : fa[i]? = some f := by rfl) : f.ok K = true := c.d.fact i h
theorem SaysX.def_ (c : SaysX xs fa fn K) (i : Nat) {d : He.DefD} (h : fn[i]? = some d := by rfl) : ∃ fd, FunD K d.name d.qual d.params d.body d.scope (d.dvs K) (d.kws K) (He.fAd K d.at_) fd := c.d.def_ i h
theorem SaysX.xc (c : SaysX xs fa fn K) (i : Nat) {q : Str × Str × Str} (h : xs[i]? = some q := by rfl) : XcF K q.1 q.2.1 q.2.2 :=
  xcB_ok (List.all_eq_true.mp c.x q (List.mem_of_getElem? h))
end
theorem is_fn {K : PySem.W.Frag} {v : Value} (h : PySem.W.isFn K v = true) : PySem.W.typeIn K v = some (.type "function") := beq_iff_eq.mp h
section
variable {X : Cx} {x n : Str} {C : Addr} {i : Nat} {body suite : List Stmt} {b₀ : Stmt} {np pos pos' : Pos} {tb : WX → TS} {ts : Addr → Value → Option Addr → TS}
theorem ps_tryX (hm : X.mg x = some (.ref C)) (hN : X.N.Nodup) (hs : X.stack = X.env :: X.outer) (hf : X.env.frame = some X.env.locals) (hi : X.N[i]? = some n) (hln : X.env.kindOf n = some .local) (hg : Gl X x) (hd : (x == ("__debug__" : Str)) = false)
    (hb : ∀ (W : WX) (pn : List (Addr × Obj)) (xe : Value → Shared → Prop), Takes (X.tr pn xe) W → PSs (X.tr pn xe) body (tb W))
    (hsu : ∀ (a : Addr) (oe : Obj) (cls : Value) (d : Option Addr) (pn : List (Addr × Obj)), Zc cls d oe → (∃ vs, oe.data = .fields vs) → PSs (X.suite a ((a, oe) :: pn)) (b₀ :: suite) (ts a cls d)) :
    PS X (.Try body [.ExceptHandler (some (.Name x np)) (some n) (b₀ :: suite) pos'] [] [] pos) (tTry X.K C i tb ts) :=
  ps_try_as (Wout := fun _ _ _ _ => False) hs hf hN hi hln ⟨hg, hd, .inl hm⟩ takes0 (fun W pn xe tk _ => hb W pn xe tk) hsu
end
/-- a, b = a list -/
def kUnl (K : PySem.W.Frag) (n : Nat) (u1 : TGs) (σ : L2.St) (P : L2.St → Hp → Prop) : VK := fun x H1 => gUnl K n u1 x σ H1 P
theorem g_asgU {K : PySem.W.Frag} {n : Nat} {u1 : TGs} {te : TE} {D : Ends} {σ : L2.St} {H : Hp} (k : te σ H (kUnl K n u1 σ D.nx)) : tAsg te (gUnl K n u1) D σ H := k
theorem g_kunl {K : PySem.W.Frag} {n : Nat} {u1 : TGs} {a : Addr} {xs : List V} {σ : L2.St} {H : Hp} {P : L2.St → Hp → Prop} (h : H a = some (.lst xs)) (l : xs.length = n) (k0 : u1 xs σ H P) : kUnl K n u1 σ P (.ref a) H := ⟨a, xs, rfl, SqL.of h, l, k0⟩
end SL
end

section
set_option synthInstance.maxHeartbeats 400000
set_option synthInstance.maxSize 4000
set_option Elab.async false
set_option linter.all false
set_option maxRecDepth 100000
set_option maxHeartbeats 1000000
namespace SL
open PySem L2
local macro_rules | `(tactic| row_cond sl_iH) => `(tactic| (rename Own _ _ => hO0; rename Hp => hq0; intro H1 hH1; clear hO0; (try clear hq0)))
local macro_rules | `(tactic| row_cond sl_ipH) => `(tactic| (rename Own _ _ => hO0; rename Hp => hq0; intro p1 H1 hH1; clear hO0; (try clear hq0)))
local macro_rules | `(tactic| row_cond sl_ivH) => `(tactic| (rename Own _ _ => hO0; rename Hp => hq0; intro v1 H1 hv1 hv2 hH1; clear hO0; (try clear hq0)))
local macro_rules | `(tactic| row_cond sl_ix) => `(tactic| first | assumption | exact atI_0 | exact atI_1 | exact atI_2 | exact atI_3c | exact atI_4c | exact atI_5c | exact atI_6c | exact atI_7c | exact rfl)
local macro_rules | `(tactic| row_cond sl_ixn) => `(tactic| first | assumption | exact ixN_0 | exact ixN_1 | exact rfl)
local macro_rules | `(tactic| row_cond sl_new) => `(tactic| (rename Own _ _ => z0; exact z0))
local macro_rules | `(tactic| row_cond sl_own) => `(tactic| first | (rename Own _ _ => z0; first | exact z0 | exact own_p1 z0 | exact own_p2 z0 | exact own_p3 z0 | exact own_p4 z0 | exact own_p5 z0 | exact own_p6 z0 | exact own_p7 z0 | exact own_p8 z0 | exact own_p9 z0 | exact own_p10 z0 | exact own_p11 z0 | exact own_p12 z0 | exact own_p13 z0 | exact own_p14 z0 | exact own_p15 z0 | exact own_p16 z0 | exact own_p17 z0 | exact own_p18 z0 | exact own_p19 z0) | assumption | exact own_p1 (by assumption) | exact own_p2 (by assumption) | exact own_p3 (by assumption) | exact own_p4 (by assumption) | exact own_p5 (by assumption))
local macro_rules | `(tactic| row_cond sl_at) => `(tactic| first | assumption | exact own_pt (by row_cond sl_own))
local macro_rules | `(tactic| row_cond sl_ar) => `(tactic| first | assumption | omega | decide | (simp only [List.length_set, List.length_map, List.length_append, List.length_replicate, List.length_cons, List.length_nil, List.length_range, List.length_tail]; omega))
local macro_rules | `(tactic| row_cond sl_sz) => `(tactic| first | assumption | decide | (simp only [List.length_map]; omega) | (simp only [List.length_map, List.length_cons, List.length_nil, List.length_append, List.length_range, List.length_replicate, List.length_set]; omega) | omega)
local macro_rules | `(tactic| row_cond sl_hb) => `(tactic| (intro hb; (try simp only [decide_eq_true_eq, decide_eq_false_iff_not, Bool.not_eq_true', Bool.not_eq_false', Bool.not_true, Bool.not_false, Bool.true_eq_false, Bool.false_eq_true, reduceCtorEq, bne_iff_ne, beq_iff_eq, ne_eq, Classical.not_not, decide_true, decide_false, not_true_eq_false, not_false_eq_true, List.head?_cons, List.head?_nil, bne_self_eq_false, beq_self_eq_true, Option.some.injEq, false_implies, Bool.and_eq_true, Bool.or_eq_true, eq_self, List.isEmpty_nil, List.isEmpty_cons, List.append_nil, List.nil_append, Bool.and_true, Bool.true_and, Bool.and_false, Bool.false_and, Bool.or_false, Bool.or_true, Bool.false_or, Bool.true_or, and_true, true_and, and_false, false_and, Bool.bne_false, Bool.bne_true, Bool.not_eq_true] at hb); (try contradiction); (try exact absurd hb (by decide +kernel)); (try (exfalso; revert hb; (try simp only [List.length_cons, List.length_nil, List.length_map, not_true_eq_false, not_false_eq_true, false_implies]); omega))))
local macro_rules | `(tactic| row_cond sl_s1) => `(tactic| (with_reducible refine rd_go ?_))
local macro_rules | `(tactic| row_cond sl_s2) => `(tactic| first
  | ((with_reducible refine g_modI ?k1 ?_); (case k1 => row_cond sl_ar))
  | ((with_reducible refine g_divI ?k1 ?_); (case k1 => row_cond sl_ar))
  | ((with_reducible refine g_mulI ?k1 ?_); (case k1 => row_cond sl_ar))
  | ((with_reducible refine g_wp ?k1 ?_); (case k1 => exact rfl)))
local macro_rules | `(tactic| row_cond sl_s3) => `(tactic| first
  | ((with_reducible refine hd_fld ?_); (with_reducible refine h_fld1 (by row_cond sl_own) ?_))
  | ((with_reducible refine hd_st2 ?_); ((with_reducible refine h_st2 (by row_cond sl_own) ?_); row_cond sl_iH))
  | ((with_reducible refine hd_au1 ?_); (with_reducible refine h_au1 (by row_cond sl_own) ?_))
  | ((with_reducible refine hd_au3 ?_); ((with_reducible refine h_au3 (by row_cond sl_own) ?_); row_cond sl_iH))
  | ((with_reducible refine hd_meth ?_); first | (with_reducible refine h_meth1 (by row_cond sl_new) (by exact inferInstance) ?_) | (with_reducible refine h_meth1 (own_p1 (by row_cond sl_new)) (by exact inferInstance) ?_) | (with_reducible refine h_meth1 (own_p2 (by row_cond sl_new)) (by exact inferInstance) ?_) | (with_reducible refine h_meth1 (own_p3 (by row_cond sl_new)) (by exact inferInstance) ?_) | (with_reducible refine h_meth1 (own_p4 (by row_cond sl_new)) (by exact inferInstance) ?_) | (with_reducible refine h_meth1 (own_p5 (by row_cond sl_new)) (by exact inferInstance) ?_) | (with_reducible refine h_meth1 (own_p6 (by row_cond sl_new)) (by exact inferInstance) ?_) | (with_reducible refine h_meth1 (own_p7 (by row_cond sl_new)) (by exact inferInstance) ?_) | (with_reducible refine h_meth1 (own_p8 (by row_cond sl_new)) (by exact inferInstance) ?_) | (with_reducible refine h_meth1 (own_p9 (by row_cond sl_new)) (by exact inferInstance) ?_) | (with_reducible refine h_meth1 (own_p10 (by row_cond sl_new)) (by exact inferInstance) ?_) | (with_reducible refine h_meth1 (own_p11 (by row_cond sl_new)) (by exact inferInstance) ?_) | (with_reducible refine h_meth1 (own_p12 (by row_cond sl_new)) (by exact inferInstance) ?_) | (with_reducible refine h_meth1 (own_p13 (by row_cond sl_new)) (by exact inferInstance) ?_) | (with_reducible refine h_meth1 (own_p14 (by row_cond sl_new)) (by exact inferInstance) ?_) | (with_reducible refine h_meth1 (own_p15 (by row_cond sl_new)) (by exact inferInstance) ?_) | (with_reducible refine h_meth1 (own_p16 (by row_cond sl_new)) (by exact inferInstance) ?_) | (with_reducible refine h_meth1 (own_p17 (by row_cond sl_new)) (by exact inferInstance) ?_) | (with_reducible refine h_meth1 (own_p18 (by row_cond sl_new)) (by exact inferInstance) ?_) | (with_reducible refine h_meth1 (own_p19 (by row_cond sl_new)) (by exact inferInstance) ?_))
  | ((with_reducible refine hd_len ?_); first | (with_reducible refine g_lenM (by row_cond sl_at) ?_) | (with_reducible refine g_len (by row_cond sl_at) ?_) | (with_reducible refine g_lenT (by row_cond sl_at) ?_))
  | ((with_reducible refine hd_bm ?_); (with_reducible refine g_bmL (by row_cond sl_at) ?_))
  | ((with_reducible refine hd_bm0 ?_); (with_reducible refine g_bm0L (by row_cond sl_at) ?_))
  | ((with_reducible refine hd_popAt ?_); ((with_reducible refine g_popC (by row_cond sl_own) (y := ?y1) (ys := ?y2) ?k1 ?_); (case k1 => exact rfl); row_cond sl_iH))
  | ((with_reducible refine hd_app ?_); first | ((with_reducible refine g_appendM (by row_cond sl_own) ?k1 ?_); (case k1 => row_cond sl_sz); row_cond sl_iH) | ((with_reducible refine g_append (by row_cond sl_own) ?k1 ?_); (case k1 => row_cond sl_sz); row_cond sl_iH))
  | ((with_reducible refine hd_lst ?_); ((with_reducible refine g_lstA (by assumption) ?k1 ?_); (case k1 => row_cond sl_sz); row_cond sl_ipH))
  | ((with_reducible refine hd_tup ?_); ((with_reducible refine g_tupA (by assumption) ?k1 ?_); (case k1 => row_cond sl_sz); row_cond sl_ipH))
  | ((with_reducible refine hd_list ?_); ((with_reducible refine g_listOf (by row_cond sl_at) (by assumption) ?_); row_cond sl_ipH))
  | ((with_reducible refine hd_ixL ?_); first | (with_reducible refine g_ixLast (by row_cond sl_at) ?_) | (with_reducible refine g_ixM0 (by row_cond sl_at) ?_) | (with_reducible refine g_ixM1 (by row_cond sl_at) ?_) | ((with_reducible refine g_ixLM (by row_cond sl_at) ?k1 ?_); (case k1 => row_cond sl_ar)) | ((with_reducible refine g_ixL (v := ?v1) (by row_cond sl_at) ?k1 ?_); (case k1 => row_cond sl_ix)) | ((with_reducible refine g_ixIl (by row_cond sl_at) ?k1 ?_); (case k1 => row_cond sl_sz); intro v1 hv1; (try simp only [List.mem_cons, List.mem_singleton, List.not_mem_nil, or_false] at hv1)))
  | ((with_reducible refine hd_ixT ?_); ((with_reducible refine g_ixT (v := ?v1) (by row_cond sl_at) ?k1 ?_); (case k1 => row_cond sl_ix)))
  | ((with_reducible refine hd_su2 ?_); first | ((with_reducible refine g_setC (by row_cond sl_own) ?_); row_cond sl_iH) | ((with_reducible refine g_setLast (by row_cond sl_own) ?_); row_cond sl_iH) | ((with_reducible refine g_setLM (by row_cond sl_own) ?k1 ?_); (case k1 => row_cond sl_ar); row_cond sl_iH) | ((with_reducible refine g_setOS (by row_cond sl_own) ?k1 ?_); (case k1 => row_cond sl_ar); row_cond sl_iH) | ((with_reducible refine g_setON (by row_cond sl_own) ?k1 ?_); (case k1 => row_cond sl_ar); row_cond sl_iH) | ((with_reducible refine g_setL (j := ?j1) (by row_cond sl_own) ?k1 ?_); (case k1 => row_cond sl_ixn); row_cond sl_iH))
  | ((with_reducible refine hd_slL ?_); first | ((with_reducible refine g_slB (by row_cond sl_at) (by assumption) ?_); row_cond sl_ipH) | ((with_reducible refine g_slD (by row_cond sl_at) (by assumption) ?k1 ?_); (case k1 => row_cond sl_ar); row_cond sl_ipH) | ((with_reducible refine g_slT (by row_cond sl_at) (by assumption) ?k1 ?_); (case k1 => row_cond sl_ar); row_cond sl_ipH) | ((with_reducible refine g_slDv (by row_cond sl_at) (by assumption) ?k1 ?_); (case k1 => row_cond sl_ar); row_cond sl_ipH) | ((with_reducible refine g_slTv (by row_cond sl_at) (by assumption) ?k1 ?_); (case k1 => row_cond sl_ar); row_cond sl_ipH) | ((with_reducible refine g_slice (by row_cond sl_at) (by assumption) ?_); row_cond sl_ipH) | ((with_reducible refine g_sliceS (by row_cond sl_own) ?_); row_cond sl_ipH))
  | ((with_reducible refine hd_slT ?_); first | ((with_reducible refine g_slTT (by row_cond sl_at) (by assumption) ?k1 ?_); (case k1 => row_cond sl_ar); row_cond sl_ipH) | ((with_reducible refine g_slTD (by row_cond sl_at) (by assumption) ?k1 ?_); (case k1 => row_cond sl_ar); row_cond sl_ipH))
  | ((with_reducible refine hd_listI ?_); (with_reducible refine g_iListS (by row_cond sl_own) ?_))
  | ((with_reducible refine hd_len ?_); (with_reducible refine g_lenSq (by row_cond sl_own) ?_))
  | ((with_reducible refine hd_gtup ?_); ((with_reducible refine g_gtup (by row_cond sl_at) ?k1 ?_); (case k1 => exact rfl)))
  | ((with_reducible refine hd_listI ?_); (with_reducible refine g_iList1 (by row_cond sl_at) ?_))
  | ((with_reducible refine hd_tupI ?_); (with_reducible refine g_iTup1 (by row_cond sl_at) ?_))
  | ((with_reducible refine hd_rng1 ?_); first | ((with_reducible refine g_iRng1N ?k1 ?_); (case k1 => row_cond sl_ar)) | ((with_reducible refine g_iRng1A ?k1 ?_); (case k1 => row_cond sl_ar)))
  | ((with_reducible refine hd_rng2 ?_); ((with_reducible refine g_iRng2A ?k1 ?_); (case k1 => row_cond sl_ar)))
  | ((with_reducible refine hd_make ?_); ((with_reducible refine g_makeA (by assumption) ?_); row_cond sl_ipH))
  | ((with_reducible refine hd_mk2 ?_); ((with_reducible refine g_mk2 (by assumption) ?k1 ?_); (case k1 => exact rfl); row_cond sl_ipH))
  | ((with_reducible refine hd_isi ?_); first | (with_reducible refine g_isiLL (by row_cond sl_at) ?_) | (with_reducible refine g_isiTT (by row_cond sl_at) ?_) | (with_reducible refine g_isiLT (by row_cond sl_at) ?_) | (with_reducible refine g_isiTL (by row_cond sl_at) ?_) | (with_reducible refine g_isiLI (by row_cond sl_at) ?_) | (with_reducible refine g_isiTI (by row_cond sl_at) ?_) | (with_reducible refine g_isiTB (by row_cond sl_at) ?_))
  | ((with_reducible refine hd_eqD ?_); ((with_reducible refine g_eqD (by row_cond sl_dt) (by row_cond sl_dt) ?k1 ?_); (case k1 => decide)))
  | ((with_reducible refine hd_neD ?_); ((with_reducible refine g_neD (by row_cond sl_dt) (by row_cond sl_dt) ?k1 ?_); (case k1 => decide)))
  | ((with_reducible refine hd_rep ?_); first | ((with_reducible refine g_repB (by row_cond sl_at) (by assumption) ?k1 ?_); (case k1 => row_cond sl_ar); row_cond sl_ipH) | ((with_reducible refine g_repI (by row_cond sl_at) (by assumption) ?k1 ?_); (case k1 => row_cond sl_ar); row_cond sl_ipH) | ((with_reducible refine g_repN (by row_cond sl_at) (by assumption) ?k1 ?_); (case k1 => row_cond sl_ar); row_cond sl_ipH))
  | ((with_reducible refine hd_cat ?_); first | ((with_reducible refine g_catM (by row_cond sl_at) (by row_cond sl_at) (by assumption) ?k1 ?_); (case k1 => row_cond sl_sz); row_cond sl_ipH) | ((with_reducible refine g_cat (by row_cond sl_at) (by row_cond sl_at) (by assumption) ?k1 ?_); (case k1 => row_cond sl_sz); row_cond sl_ipH))
  | ((with_reducible refine hd_ext ?_); first | ((with_reducible refine g_extendM (by row_cond sl_own) (by row_cond sl_at) ?k1 ?_); (case k1 => row_cond sl_sz); row_cond sl_iH) | ((with_reducible refine g_extend (by row_cond sl_own) (by row_cond sl_at) ?k1 ?_); (case k1 => row_cond sl_sz); row_cond sl_iH))
  | ((with_reducible refine hd_pop ?_); (with_reducible refine g_pop (by row_cond sl_own) ?_); row_cond sl_iH)
  | ((with_reducible refine hd_dg2 ?_); first | ((with_reducible refine g_dgetF (j := ?j1) (by row_cond sl_own) ?k1 ?_); (case k1 => row_cond sl_ix)) | (with_reducible refine g_dgetS (by row_cond sl_own) ?_))
  | ((with_reducible refine hd_gunl ?_); ((with_reducible refine g_gunl (by row_cond sl_at) ?k1 ?_); (case k1 => exact rfl)))
  | ((with_reducible refine hd_d21 ?_); (with_reducible refine g_d21F (by row_cond sl_own) ?_))
  | ((with_reducible refine hd_d23 ?_); (with_reducible refine g_d23F (by row_cond sl_own) ?_))
  | ((with_reducible refine hd_dp3 ?_); first | ((with_reducible refine g_dputS (by row_cond sl_own) ?_); row_cond sl_iH) | ((with_reducible refine g_dputF (by row_cond sl_own) ?k1 ?_); (case k1 => row_cond sl_ar); row_cond sl_iH) | ((with_reducible refine g_dputE (z := ?z1) (by row_cond sl_own) ?k1 ?_); (case k1 => assumption); row_cond sl_iH))
  | ((with_reducible refine hd_dnew ?_); (with_reducible refine g_dnew (by assumption) ?_); row_cond sl_ipH)
  | ((with_reducible refine hd_sum ?_); (with_reducible refine g_sumI (by row_cond sl_at) ?_))
  | ((with_reducible refine hd_all ?_); (with_reducible refine g_allB (by row_cond sl_at) ?_))
  | ((with_reducible refine hd_max ?_); (with_reducible refine g_maxI (by row_cond sl_at) ?k1 ?_); (case k1 => row_cond sl_ar); intro m1 hm1)
  | ((with_reducible refine hd_min ?_); (with_reducible refine g_minI (by row_cond sl_at) ?k1 ?_); (case k1 => row_cond sl_ar); intro m1 hm1)
  | (row_cond sl_use))
local macro_rules | `(tactic| row_cond sl_s4) => `(tactic| first
  | ((with_reducible refine g_ifS1 ?_ ?_) <;> row_cond sl_hb)
  | ((with_reducible refine g_and1 ?_ ?_) <;> row_cond sl_hb)
  | ((with_reducible refine g_or1 ?_ ?_) <;> row_cond sl_hb)
  | ((with_reducible refine g_andV1 ?_ ?_) <;> row_cond sl_hb)
  | ((with_reducible refine g_orV1 ?_ ?_) <;> row_cond sl_hb)
  | ((with_reducible refine g_if1 ?_ ?_) <;> row_cond sl_hb)
  | ((with_reducible refine g_wh ?_ ?_) <;> row_cond sl_hb)
  | ((with_reducible refine g_ci ?_ ?_) <;> row_cond sl_hb)
  | ((with_reducible refine g_ch3 ?_ ?_) <;> row_cond sl_hb))
local macro_rules | `(tactic| row_cond sl_go) => `(tactic| repeat' (first | row_cond sl_s1 | row_cond sl_s3 | row_cond sl_s4 | row_cond sl_s2))
local macro_rules | `(tactic| row_cond sl_all) => `(tactic| repeat' (first | row_cond sl_s1 | row_cond sl_s3 | row_cond sl_s4 | row_cond sl_s2 | (with_reducible refine g_thru ?_)))
local macro_rules | `(tactic| row_cond sl_drop) => `(tactic| first | assumption | ((rename Own _ _ => z0); (repeat (first | exact z0 | (replace z0 := Own.tail z0))); done))
local macro_rules | `(tactic| row_cond sl_close) => `(tactic| fail)
local macro_rules | `(tactic| row_cond sl_fin1) => `(tactic| first | ((refine Own.cons_mono (by row_cond sl_own) ?_); intro h1 z1) | row_cond sl_close)
local macro_rules | `(tactic| row_cond sl_fin) => `(tactic| ((repeat row_cond sl_fin1); row_cond sl_drop))
local macro_rules | `(tactic| row_cond sl_dt) => `(tactic| first | assumption | exact is_ints (by row_cond sl_at) | exact is_bls (by row_cond sl_at) | exact is_lit (by row_cond sl_at) | exact is_int | exact is_it (it_lost (by row_cond sl_at)) | exact is_its (by row_cond sl_at) (own_per (by row_cond sl_own) pst_its) | exact is_slts (by row_cond sl_own2))
local macro_rules | `(tactic| row_cond sl_own2) => `(tactic| exact Own.cons_mono (by row_cond sl_own) (fun h z => by row_cond sl_own))
local macro_rules | `(tactic| row_cond sl_own3) => `(tactic| exact Own.cons_mono (by row_cond sl_own) (fun h z => by row_cond sl_own2))
local macro_rules | `(tactic| row_cond sl_own4) => `(tactic| exact Own.cons_mono (by row_cond sl_own) (fun h z => by row_cond sl_own3))
local macro_rules | `(tactic| row_cond sl_own5) => `(tactic| exact Own.cons_mono (by row_cond sl_own) (fun h z => by row_cond sl_own4))
local macro_rules | `(tactic| row_cond sl_own6) => `(tactic| exact Own.cons_mono (by row_cond sl_own) (fun h z => by row_cond sl_own5))
local macro_rules | `(tactic| row_cond sl_own7) => `(tactic| exact Own.cons_mono (by row_cond sl_own) (fun h z => by row_cond sl_own6))
local macro_rules | `(tactic| row_cond sl_own8) => `(tactic| exact Own.cons_mono (by row_cond sl_own) (fun h z => by row_cond sl_own7))
local macro_rules | `(tactic| row_cond sl_own9) => `(tactic| exact Own.cons_mono (by row_cond sl_own) (fun h z => by row_cond sl_own8))
local macro_rules | `(tactic| row_cond sl_own10) => `(tactic| exact Own.cons_mono (by row_cond sl_own) (fun h z => by row_cond sl_own9))
local macro_rules | `(tactic| row_cond sl_own11) => `(tactic| exact Own.cons_mono (by row_cond sl_own) (fun h z => by row_cond sl_own10))
local macro_rules | `(tactic| row_cond sl_own12) => `(tactic| exact Own.cons_mono (by row_cond sl_own) (fun h z => by row_cond sl_own11))
local macro_rules | `(tactic| row_cond sl_w) => `(tactic| (try simp only [wipe, List.set_cons_succ, List.set_cons_zero]))
local macro_rules | `(tactic| row_cond sl_use) => `(tactic| first
  | (with_reducible refine g_methE ?_)
  | (with_reducible refine g_rz ?_)
  | ((with_reducible refine g_rzA (by row_cond sl_new) ?_); row_cond sl_ipH)
  | ((with_reducible refine g_xf ?k1 (by row_cond sl_at) ?_); (case k1 => exact rfl))
  | (with_reducible refine g_isX (by row_cond sl_at) is_exc ?_))

/-! ## ring -/
/-! ### Ring -/
class Tx_Ring (K : PySem.W.Frag) : Prop where
  cl : Cls K (He.ga K "Ring")
  n_cells : NoAttr K (He.ga K "Ring") "cells"
  n_written : NoAttr K (He.ga K "Ring") "written"
  n_taken : NoAttr K (He.ga K "Ring") "taken"
def ks_Ring : List Str := ["cells", "written", "taken"]
theorem nd_Ring : ks_Ring.Nodup := by decide +kernel
theorem nm_Ring : ∀ m ∈ (["__init__", "held", "is_full", "put", "first", "take", "listed"] : List Str), m ∉ ks_Ring := by decide +kernel
def fs_Ring (a0 a1 a2 : V) : List (Str × V) := [("cells", a0), ("written", a1), ("taken", a2)]
theorem fz_Ring (a0 a1 a2 : V) : fs_Ring a0 a1 a2 = ks_Ring.zip [a0, a1, a2] := rfl
section
variable {K : PySem.W.Frag} {y a0 a1 a2 : V} {m : Str}
instance [T : Tx_Ring K] : Cl K (He.ga K "Ring") := ⟨T.cl⟩
instance [T : Tx_Ring K] : Na K (He.ga K "Ring") "cells" := ⟨T.n_cells⟩
instance [T : Tx_Ring K] : Na K (He.ga K "Ring") "written" := ⟨T.n_written⟩
instance [T : Tx_Ring K] : Na K (He.ga K "Ring") "taken" := ⟨T.n_taken⟩
instance : Lk (fs_Ring a0 a1 a2) "cells" a0 := ⟨lookup_zip (ks := ks_Ring) (vs := [a0, a1, a2]) (i := 0) nd_Ring rfl rfl⟩
instance : Pf "cells" y (fs_Ring a0 a1 a2) (fs_Ring y a1 a2) := ⟨putF_zip (ks := ks_Ring) (vs := [a0, a1, a2]) (i := 0) nd_Ring rfl rfl⟩
instance : Lk (fs_Ring a0 a1 a2) "written" a1 := ⟨lookup_zip (ks := ks_Ring) (vs := [a0, a1, a2]) (i := 1) nd_Ring rfl rfl⟩
instance : Pf "written" y (fs_Ring a0 a1 a2) (fs_Ring a0 y a2) := ⟨putF_zip (ks := ks_Ring) (vs := [a0, a1, a2]) (i := 1) nd_Ring rfl rfl⟩
instance : Lk (fs_Ring a0 a1 a2) "taken" a2 := ⟨lookup_zip (ks := ks_Ring) (vs := [a0, a1, a2]) (i := 2) nd_Ring rfl rfl⟩
instance : Pf "taken" y (fs_Ring a0 a1 a2) (fs_Ring a0 a1 y) := ⟨putF_zip (ks := ks_Ring) (vs := [a0, a1, a2]) (i := 2) nd_Ring rfl rfl⟩
instance : Lm (fs_Ring a0 a1 a2) "__init__" := ⟨lookup_zip_none (ks := ks_Ring) (vs := [a0, a1, a2]) (nm_Ring "__init__" (by simp))⟩
instance : Lm (fs_Ring a0 a1 a2) "held" := ⟨lookup_zip_none (ks := ks_Ring) (vs := [a0, a1, a2]) (nm_Ring "held" (by simp))⟩
instance : Lm (fs_Ring a0 a1 a2) "is_full" := ⟨lookup_zip_none (ks := ks_Ring) (vs := [a0, a1, a2]) (nm_Ring "is_full" (by simp))⟩
instance : Lm (fs_Ring a0 a1 a2) "put" := ⟨lookup_zip_none (ks := ks_Ring) (vs := [a0, a1, a2]) (nm_Ring "put" (by simp))⟩
instance : Lm (fs_Ring a0 a1 a2) "first" := ⟨lookup_zip_none (ks := ks_Ring) (vs := [a0, a1, a2]) (nm_Ring "first" (by simp))⟩
instance : Lm (fs_Ring a0 a1 a2) "take" := ⟨lookup_zip_none (ks := ks_Ring) (vs := [a0, a1, a2]) (nm_Ring "take" (by simp))⟩
instance : Lm (fs_Ring a0 a1 a2) "listed" := ⟨lookup_zip_none (ks := ks_Ring) (vs := [a0, a1, a2]) (nm_Ring "listed" (by simp))⟩
instance : Ln (fs_Ring a0 a1 a2) := ⟨by show 3 < 1000; decide⟩
instance (priority := 1100) : Pf "cells" y ([] : List (Str × V)) ([("cells", y)] : List (Str × V)) := ⟨putF_new (by show ("cells" : Str) ∉ ks_Ring.take 0; decide +kernel)⟩
instance (priority := 1100) : Pf "written" y ([("cells", a0)] : List (Str × V)) ([("cells", a0), ("written", y)] : List (Str × V)) := ⟨putF_new (by show ("written" : Str) ∉ ks_Ring.take 1; decide +kernel)⟩
instance : Ln ([("cells", a0)] : List (Str × V)) := ⟨by show 1 < 1000; decide⟩
instance : Pf "taken" y ([("cells", a0), ("written", a1)] : List (Str × V)) (fs_Ring a0 a1 y) := ⟨putF_new (by show ("taken" : Str) ∉ ks_Ring.take 2; decide +kernel)⟩
instance : Ln ([("cells", a0), ("written", a1)] : List (Str × V)) := ⟨by show 2 < 1000; decide⟩
end
/-- what a ring's fields hold: the queue xs in n cells -/
structure Rg (cells : List V) (w t n : Nat) (xs : List V) : Prop where
  hn : 0 < n
  hl : cells.length = n
  ht : t < 2 * n
  hx : xs.length ≤ n
  hw : w = (t + xs.length) % (2 * n)
  get : ∀ k v, xs[k]? = some v → cells[(t + k) % n]? = some v
structure rgA (K : PySem.W.Frag) (p : Addr) (n : Nat) (xs : List V) (h : Hp) : Prop where
  e : ∃ l : Addr, ∃ cells : List V, ∃ w : Nat, ∃ t : Nat, al [ob p (He.ga K "Ring") (fs_Ring (.ref l) (.int (w : Int)) (.int (t : Int))), pt l (.lst cells), pu (Rg cells w t n xs)] h
theorem rg_open {K : PySem.W.Frag} {p : Addr} {n : Nat} {xs : List V} {F : List Atom} {H : Hp} (x : Own H (rgA K p n xs :: F)) : ∃ l : Addr, ∃ cells : List V, ∃ w : Nat, ∃ t : Nat, Own H (ob p (He.ga K "Ring") (fs_Ring (.ref l) (.int (w : Int)) (.int (t : Int))) :: pt l (.lst cells) :: pu (Rg cells w t n xs) :: F) := by
  have y := x.mono1 fun _ q => q.e
  obtain ⟨l, y⟩ := own_ex y
  obtain ⟨cells, y⟩ := own_ex y
  obtain ⟨w, y⟩ := own_ex y
  obtain ⟨t, y⟩ := own_ex y
  exact ⟨l, cells, w, t, own_in y⟩
theorem rg_close {K : PySem.W.Frag} {p : Addr} {n : Nat} {xs : List V} {F : List Atom} {H : Hp} {l : Addr} {cells : List V} {w : Nat} {t : Nat} (x : Own H (ob p (He.ga K "Ring") (fs_Ring (.ref l) (.int (w : Int)) (.int (t : Int))) :: pt l (.lst cells) :: pu (Rg cells w t n xs) :: F)) : Own H (rgA K p n xs :: F) :=
  Own.mono1 (own_out (cs := [ob p (He.ga K "Ring") (fs_Ring (.ref l) (.int (w : Int)) (.int (t : Int))), pt l (.lst cells), pu (Rg cells w t n xs)]) x) fun _ q => ⟨⟨l, cells, w, t, q⟩⟩
instance {K : PySem.W.Frag} {p : Addr} {n : Nat} {xs : List V} {m : Str} [i : ∀ a b c, Lm (fs_Ring a b c) m] : Mn (rgA K p n xs) p (He.ga K "Ring") m := ⟨fun h ⟨⟨l, cells, w, t, y⟩⟩ => by
  obtain ⟨dx, e⟩ := own_ob y.e
  exact ⟨dx, _, e, (i _ _ _).h⟩⟩
theorem nat_mod2 {a n : Nat} (h : a < 2 * n) : a % n = if a < n then a else a - n := by
  split
  · exact Nat.mod_eq_of_lt (by assumption)
  · rw [Nat.mod_eq_sub_mod (by omega)]
    exact Nat.mod_eq_of_lt (by omega)
theorem rg_w {cells xs : List V} {w t n : Nat} (g : Rg cells w t n xs) : w = if t + xs.length < 2 * n then t + xs.length else t + xs.length - 2 * n := by
  obtain ⟨h1, h2, h3, h4, h5, h6⟩ := g
  rw [h5, nat_mod2 (n := 2 * n) (by omega)]
theorem rg_held {cells xs : List V} {w t n : Nat} (g : Rg cells w t n xs) : ((w : Int) - (t : Int)) % (2 * (n : Int)) = (xs.length : Int) := by
  have e := rg_w g
  obtain ⟨h1, h2, h3, h4, h5, h6⟩ := g
  split at e
  · rw [e]
    rw [show ((t + xs.length : Nat) : Int) - (t : Int) = (xs.length : Int) by omega]
    exact Int.emod_eq_of_lt (by omega) (by omega)
  · have q : (w : Int) - (t : Int) = (xs.length : Int) - (2 * (n : Int)) := by omega
    rw [q, show (xs.length : Int) - 2 * (n : Int) = (xs.length : Int) + (2 * (n : Int)) * (-1) by omega, Int.add_mul_emod_self_left]
    exact Int.emod_eq_of_lt (by omega) (by omega)
theorem rg_get {cells xs : List V} {t n k : Nat} : (t + k) % n = (t % n + k) % n := by rw [Nat.mod_add_mod]
theorem rg_put {cells xs : List V} {w t n : Nat} {v : V} (g : Rg cells w t n xs) (h : xs.length < n) : Rg (cells.set (w % n) v) ((w + 1) % (2 * n)) t n (xs ++ [v]) := by
  have e := g.hw
  have ew : w % n = (t + xs.length) % n := by
    rw [e, Nat.mul_comm, Nat.mod_mul_right_mod]
  refine ⟨g.hn, by rw [List.length_set]; exact g.hl, g.ht, by rw [List.length_append]; exact h, ?_, fun k u hk => ?_⟩
  · rw [e, List.length_append]
    show _ = (t + (xs.length + 1)) % (2 * n)
    rw [Nat.mod_add_mod, Nat.add_assoc]
  · have hn := g.hn
    rw [List.getElem?_set, ew]
    rcases Nat.lt_trichotomy k xs.length with hlt | heq | hgt
    · have ne : (t + xs.length) % n ≠ (t + k) % n := by
        intro q
        have q2 : ((t + k) + (xs.length - k)) % n = (t + k) % n := by
          rw [← q]
          congr 1
          omega
        have q3 : (xs.length - k) % n = 0 := by
          have a1 : ((t + k) % n + (xs.length - k)) % n = (t + k) % n := by rw [Nat.mod_add_mod]; exact q2
          have a2 := Nat.mod_lt (t + k) hn
          rcases Nat.lt_or_ge ((t + k) % n + (xs.length - k)) n with b1 | b1
          · rw [Nat.mod_eq_of_lt b1] at a1
            omega
          · rw [Nat.mod_eq_sub_mod b1, Nat.mod_eq_of_lt (by omega)] at a1
            omega
        rw [Nat.mod_eq_of_lt (by omega)] at q3
        omega
      rw [if_neg ne]
      exact g.get k u (by rwa [List.getElem?_append_left hlt] at hk)
    · subst heq
      rw [if_pos rfl, if_pos (by rw [g.hl]; exact Nat.mod_lt _ hn)]
      rw [List.getElem?_append_right (Nat.le_refl _), Nat.sub_self] at hk
      exact hk
    · exfalso
      rw [List.getElem?_eq_none (by rw [List.length_append]; show xs.length + 1 ≤ k; omega)] at hk
      cases hk
theorem rg_take {cells xs : List V} {w t n : Nat} {v : V} (g : Rg cells w t n (v :: xs)) : Rg (cells.set (t % n) .non) w ((t + 1) % (2 * n)) n xs := by
  have hx := g.hx
  have hn := g.hn
  rw [List.length_cons] at hx
  refine ⟨hn, by rw [List.length_set]; exact g.hl, Nat.mod_lt _ (by omega), by omega, ?_, fun k u hk => ?_⟩
  · rw [g.hw, List.length_cons, Nat.mod_add_mod]
    congr 1
    omega
  · have hk2 : k < xs.length := (List.getElem?_eq_some_iff.mp hk).1
    have e1 : ((t + 1) % (2 * n) + k) % n = (t + (k + 1)) % n := by
      rw [← Nat.mod_add_mod, Nat.mul_comm, Nat.mod_mul_right_mod, Nat.mod_add_mod]
      congr 1
      omega
    rw [e1, List.getElem?_set]
    have ne : t % n ≠ (t + (k + 1)) % n := by
      intro q
      have a1 : (t % n + (k + 1)) % n = t % n := by rw [Nat.mod_add_mod]; exact q.symm
      have a2 := Nat.mod_lt t hn
      rcases Nat.lt_or_ge (t % n + (k + 1)) n with b1 | b1
      · rw [Nat.mod_eq_of_lt b1] at a1
        omega
      · rw [Nat.mod_eq_sub_mod b1, Nat.mod_eq_of_lt (by omega)] at a1
        omega
    rw [if_neg ne]
    exact g.get (k + 1) u hk
theorem rg_at {cells xs : List V} {w t n k : Nat} {v : V} (g : Rg cells w t n xs) (h : xs[k]? = some v) : atI cells (((t : Int) + (k : Int)) % (n : Int)) = some v := by
  rw [show ((t : Int) + (k : Int)) % (n : Int) = (((t + k) % n : Nat) : Int) by simp]
  exact atI_nat (g.get k v h)
theorem rg_at0 {cells xs : List V} {w t n : Nat} {v : V} (g : Rg cells w t n (v :: xs)) : atI cells ((t : Int) % (n : Int)) = some v := by
  rw [show (t : Int) % (n : Int) = (((t + 0) % n : Nat) : Int) by simp]
  exact atI_nat (g.get 0 v rfl)
theorem rg_new {n : Nat} (h : 0 < n) : Rg (List.replicate n .non) 0 0 n [] :=
  ⟨h, List.length_replicate .., by omega, Nat.zero_le _, by simp, fun k v hk => by simp at hk⟩
theorem rg_ix {cells xs : List V} {w t n : Nat} (g : Rg cells w t n xs) : ixN cells.length ((w : Int) % (n : Int)) = some (w % n) := by
  rw [show (w : Int) % (n : Int) = ((w % n : Nat) : Int) by simp]
  have := Nat.mod_lt w g.hn
  rw [ixN_of ⟨by omega, by rw [g.hl]; omega⟩]
  rfl
theorem rg_ixt {cells xs : List V} {w t n : Nat} (g : Rg cells w t n xs) : ixN cells.length ((t : Int) % (n : Int)) = some (t % n) := by
  rw [show (t : Int) % (n : Int) = ((t % n : Nat) : Int) by simp]
  have := Nat.mod_lt t g.hn
  rw [ixN_of ⟨by omega, by rw [g.hl]; omega⟩]
  rfl
def sp_Ring_init (K : PySem.W.Frag) : Sp := fun vs H Q _ => ∃ (p : Addr) (n : Int) (F : List Atom), vs = [.ref p, .int n] ∧ (0 < n ∧ n ≤ 1000) ∧ Own H (ob p (He.ga K "Ring") [] :: F) ∧ ∀  H', Own H' (rgA K p n.toNat [] :: F) → Q (.non) H'
theorem hd_sp_Ring_init {K : PySem.W.Frag} {vs : List V} {H : Hp} {Q : VK} {E : XK} (k : sp_Ring_init K vs H Q E) : sp_Ring_init K vs H Q E := k
theorem use_Ring_init {K : PySem.W.Frag} {p : Addr} {n : Int} {F : List Atom} {H : Hp} {Q : VK} {E : XK} (x0 : Own H (ob p (He.ga K "Ring") [] :: F)) (hp : 0 < n ∧ n ≤ 1000) (k : ∀  H', Own H' (rgA K p n.toNat [] :: F) → Q (.non) H') : sp_Ring_init K [.ref p, .int n] H Q E := ⟨p, n, F, rfl, hp, x0, k⟩
def sp_Ring_held (K : PySem.W.Frag) : Sp := fun vs H Q _ => ∃ (p : Addr) (n : Nat) (xs : List V) (F : List Atom), vs = [.ref p] ∧ Own H (rgA K p n xs :: F) ∧ Q (.int (xs.length : Int)) H
theorem hd_sp_Ring_held {K : PySem.W.Frag} {vs : List V} {H : Hp} {Q : VK} {E : XK} (k : sp_Ring_held K vs H Q E) : sp_Ring_held K vs H Q E := k
theorem use_Ring_held {K : PySem.W.Frag} {p : Addr} {n : Nat} {xs : List V} {F : List Atom} {H : Hp} {Q : VK} {E : XK} (x0 : Own H (rgA K p n xs :: F)) (k : Q (.int (xs.length : Int)) H) : sp_Ring_held K [.ref p] H Q E := ⟨p, n, xs, F, rfl, x0, k⟩
def sp_Ring_is_full (K : PySem.W.Frag) : Sp := fun vs H Q _ => ∃ (p : Addr) (n : Nat) (xs : List V) (F : List Atom), vs = [.ref p] ∧ Own H (rgA K p n xs :: F) ∧ Q (.bl (decide ((xs.length : Int) = (n : Int)))) H
theorem hd_sp_Ring_is_full {K : PySem.W.Frag} {vs : List V} {H : Hp} {Q : VK} {E : XK} (k : sp_Ring_is_full K vs H Q E) : sp_Ring_is_full K vs H Q E := k
theorem use_Ring_is_full {K : PySem.W.Frag} {p : Addr} {n : Nat} {xs : List V} {F : List Atom} {H : Hp} {Q : VK} {E : XK} (x0 : Own H (rgA K p n xs :: F)) (k : Q (.bl (decide ((xs.length : Int) = (n : Int)))) H) : sp_Ring_is_full K [.ref p] H Q E := ⟨p, n, xs, F, rfl, x0, k⟩
def sp_Ring_put (K : PySem.W.Frag) : Sp := fun vs H Q _ => ∃ (p : Addr) (n : Nat) (xs : List V) (v : V) (F : List Atom), vs = [.ref p, v] ∧ (xs.length < n) ∧ Own H (rgA K p n xs :: F) ∧ ∀  H', Own H' (rgA K p n (xs ++ [v]) :: F) → Q (.non) H'
theorem hd_sp_Ring_put {K : PySem.W.Frag} {vs : List V} {H : Hp} {Q : VK} {E : XK} (k : sp_Ring_put K vs H Q E) : sp_Ring_put K vs H Q E := k
theorem use_Ring_put {K : PySem.W.Frag} {p : Addr} {n : Nat} {xs : List V} {v : V} {F : List Atom} {H : Hp} {Q : VK} {E : XK} (x0 : Own H (rgA K p n xs :: F)) (hp : xs.length < n) (k : ∀  H', Own H' (rgA K p n (xs ++ [v]) :: F) → Q (.non) H') : sp_Ring_put K [.ref p, v] H Q E := ⟨p, n, xs, v, F, rfl, hp, x0, k⟩
def sp_Ring_listed (K : PySem.W.Frag) : Sp := fun vs H Q _ => ∃ (p : Addr) (n : Nat) (xs : List V) (F : List Atom), vs = [.ref p] ∧ (n ≤ 1000) ∧ Own H (rgA K p n xs :: F) ∧ ∀ (q : Addr) H', Own H' (pt q (.lst xs) :: rgA K p n xs :: F) → Q (.ref q) H'
theorem hd_sp_Ring_listed {K : PySem.W.Frag} {vs : List V} {H : Hp} {Q : VK} {E : XK} (k : sp_Ring_listed K vs H Q E) : sp_Ring_listed K vs H Q E := k
theorem use_Ring_listed {K : PySem.W.Frag} {p : Addr} {n : Nat} {xs : List V} {F : List Atom} {H : Hp} {Q : VK} {E : XK} (x0 : Own H (rgA K p n xs :: F)) (hp : n ≤ 1000) (k : ∀ (q : Addr) H', Own H' (pt q (.lst xs) :: rgA K p n xs :: F) → Q (.ref q) H') : sp_Ring_listed K [.ref p] H Q E := ⟨p, n, xs, F, rfl, hp, x0, k⟩
def sp_Ring_first (K : PySem.W.Frag) : Sp := fun vs H Q E => ∃ (p : Addr) (n : Nat) (xs : List V) (F : List Atom), vs = [.ref p] ∧ Own H (rgA K p n xs :: F) ∧ (∀ v ys, xs = v :: ys → Q v H) ∧ (xs = [] → ∀ d H', Own H' (pt d (.xd [("held", .int 0)]) :: rgA K p n [] :: F) → E (.ref (He.ga K "RingError")) (some d) H')
theorem hd_sp_Ring_first {K : PySem.W.Frag} {vs : List V} {H : Hp} {Q : VK} {E : XK} (k : sp_Ring_first K vs H Q E) : sp_Ring_first K vs H Q E := k
theorem use_Ring_first {K : PySem.W.Frag} {p : Addr} {n : Nat} {xs : List V} {F : List Atom} {H : Hp} {Q : VK} {E : XK} (x0 : Own H (rgA K p n xs :: F)) (k1 : ∀ v ys, xs = v :: ys → Q v H) (k2 : xs = [] → ∀ d H', Own H' (pt d (.xd [("held", .int 0)]) :: rgA K p n [] :: F) → E (.ref (He.ga K "RingError")) (some d) H') : sp_Ring_first K [.ref p] H Q E := ⟨p, n, xs, F, rfl, x0, k1, k2⟩
theorem use_Ring_first_c {K : PySem.W.Frag} {p : Addr} {n : Nat} {xs : List V} {v : V} {F : List Atom} {H : Hp} {Q : VK} {E : XK} (x0 : Own H (rgA K p n (v :: xs) :: F)) (k : Q v H) : sp_Ring_first K [.ref p] H Q E := use_Ring_first x0 (fun v ys e => by obtain ⟨rfl, rfl⟩ := List.cons.inj e; exact k) (fun e => nomatch e)
theorem use_Ring_first_m {K : PySem.W.Frag} {p : Addr} {n : Nat} {α : Type} {gm : α → V} {z : α} {zs : List α} {F : List Atom} {H : Hp} {Q : VK} {E : XK} (x0 : Own H (rgA K p n ((z :: zs).map gm) :: F)) (k : Q (gm z) H) : sp_Ring_first K [.ref p] H Q E := use_Ring_first_c x0 k
def sp_Ring_take (K : PySem.W.Frag) : Sp := fun vs H Q E => ∃ (p : Addr) (n : Nat) (xs : List V) (F : List Atom), vs = [.ref p] ∧ Own H (rgA K p n xs :: F) ∧ (∀ v ys, xs = v :: ys → ∀ H', Own H' (rgA K p n ys :: F) → Q v H') ∧ (xs = [] → ∀ d H', Own H' (pt d (.xd [("held", .int 0)]) :: rgA K p n [] :: F) → E (.ref (He.ga K "RingError")) (some d) H')
theorem hd_sp_Ring_take {K : PySem.W.Frag} {vs : List V} {H : Hp} {Q : VK} {E : XK} (k : sp_Ring_take K vs H Q E) : sp_Ring_take K vs H Q E := k
theorem use_Ring_take {K : PySem.W.Frag} {p : Addr} {n : Nat} {xs : List V} {F : List Atom} {H : Hp} {Q : VK} {E : XK} (x0 : Own H (rgA K p n xs :: F)) (k1 : ∀ v ys, xs = v :: ys → ∀ H', Own H' (rgA K p n ys :: F) → Q v H') (k2 : xs = [] → ∀ d H', Own H' (pt d (.xd [("held", .int 0)]) :: rgA K p n [] :: F) → E (.ref (He.ga K "RingError")) (some d) H') : sp_Ring_take K [.ref p] H Q E := ⟨p, n, xs, F, rfl, x0, k1, k2⟩
theorem use_Ring_take_c {K : PySem.W.Frag} {p : Addr} {n : Nat} {xs : List V} {v : V} {F : List Atom} {H : Hp} {Q : VK} {E : XK} (x0 : Own H (rgA K p n (v :: xs) :: F)) (k : ∀ H', Own H' (rgA K p n xs :: F) → Q v H') : sp_Ring_take K [.ref p] H Q E := use_Ring_take x0 (fun v ys e => by obtain ⟨rfl, rfl⟩ := List.cons.inj e; exact k) (fun e => nomatch e)
theorem use_Ring_take_m {K : PySem.W.Frag} {p : Addr} {n : Nat} {α : Type} {gm : α → V} {z : α} {zs : List α} {F : List Atom} {H : Hp} {Q : VK} {E : XK} (x0 : Own H (rgA K p n ((z :: zs).map gm) :: F)) (k : ∀ H', Own H' (rgA K p n (zs.map gm) :: F) → Q (gm z) H') : sp_Ring_take K [.ref p] H Q E := use_Ring_take_c x0 k
theorem use_Ring_take_n {K : PySem.W.Frag} {p : Addr} {n : Nat} {F : List Atom} {H : Hp} {Q : VK} {E : XK} (x0 : Own H (rgA K p n [] :: F)) (k : ∀ d H', Own H' (pt d (.xd [("held", .int 0)]) :: rgA K p n [] :: F) → E (.ref (He.ga K "RingError")) (some d) H') : sp_Ring_take K [.ref p] H Q E := use_Ring_take x0 (fun v ys e => nomatch e) (fun _ => k)
theorem use_Ring_take_nm {K : PySem.W.Frag} {p : Addr} {n : Nat} {α : Type} {gm : α → V} {F : List Atom} {H : Hp} {Q : VK} {E : XK} (x0 : Own H (rgA K p n (([] : List α).map gm) :: F)) (k : ∀ d H', Own H' (pt d (.xd [("held", .int 0)]) :: rgA K p n (([] : List α).map gm) :: F) → E (.ref (He.ga K "RingError")) (some d) H') : sp_Ring_take K [.ref p] H Q E := use_Ring_take_n x0 k
noncomputable def t_Ring_init (K : PySem.W.Frag) : TS :=
  tSeq (sFld K (tVar 0) (tOp rRep (tLst (tCons (tC .non) (tNil))) (tVar 1)) "cells")
  (tSeq (sFld K (tVar 0) (tC (.int 0)) "written")
  (sFld K (tVar 0) (tC (.int 0)) "taken"))
noncomputable def t_Ring_held (K : PySem.W.Frag) : TS :=
  tSeq (tAsg (tCB (rLen K) (tCons (tFld K (tVar 0) "cells") (tNil))) (gName 1))
  (tRet (tOp rModI (tOp rSubI (tFld K (tVar 0) "written") (tFld K (tVar 0) "taken")) (tOp rMulI (tC (.int 2)) (tVar 1))))
noncomputable def t_Ring_is_full (K : PySem.W.Frag) : TS :=
  tRet (tOp rEq (tMeth (He.ga K "Ring") "held" (sp_Ring_held K) [] C8.E0 (tVar 0) tNil) (tCB (rLen K) (tCons (tFld K (tVar 0) "cells") (tNil))))
noncomputable def t_Ring_put (K : PySem.W.Frag) : TS :=
  tSeq (tAsg (tCB (rLen K) (tCons (tFld K (tVar 0) "cells") (tNil))) (gName 2))
  (tSeq (tIfS (tB (tMeth (He.ga K "Ring") "is_full" (sp_Ring_is_full K) [] C8.E0 (tVar 0) tNil)) (tNever) (tNext))
  (tSeq (tAsg (tVar 1) (gSub (tFld K (tVar 0) "cells") (tOp rModI (tFld K (tVar 0) "written") (tVar 2)) rSetL))
  (sFld K (tVar 0) (tOp rModI (tOp rAddI (tFld K (tVar 0) "written") (tC (.int 1))) (tOp rMulI (tC (.int 2)) (tVar 2))) "written")))
noncomputable def t_Ring_first (K : PySem.W.Frag) (W : WX) : TS :=
  tSeq (tIfS (tTest (tOp rEq (tMeth (He.ga K "Ring") "held" (sp_Ring_held K) [] C8.E0 (tVar 0) tNil) (tC (.int 0)))) (tRz (He.ga K "RingError") "held" W (tC (.int 0))) (tNext))
  (tRet (tOp (rIxL K) (tFld K (tVar 0) "cells") (tOp rModI (tFld K (tVar 0) "taken") (tCB (rLen K) (tCons (tFld K (tVar 0) "cells") (tNil))))))
noncomputable def t_Ring_take (K : PySem.W.Frag) (W : WX) : TS :=
  tSeq (tAsg (tMethE (He.ga K "Ring") "first" (sp_Ring_first K) W (tVar 0) tNil) (gName 1))
  (tSeq (tAsg (tCB (rLen K) (tCons (tFld K (tVar 0) "cells") (tNil))) (gName 2))
  (tSeq (tAsg (tC .non) (gSub (tFld K (tVar 0) "cells") (tOp rModI (tFld K (tVar 0) "taken") (tVar 2)) rSetL))
  (tSeq (sFld K (tVar 0) (tOp rModI (tOp rAddI (tFld K (tVar 0) "taken") (tC (.int 1))) (tOp rMulI (tC (.int 2)) (tVar 2))) "taken")
  (tRet (tVar 1)))))
noncomputable def t_Ring_listed (K : PySem.W.Frag) : TS :=
  tSeq (tAsg (tCB (rLen K) (tCons (tFld K (tVar 0) "cells") (tNil))) (gName 1))
  (tRet (tLc (iRng1 (tCons (tMeth (He.ga K "Ring") "held" (sp_Ring_held K) [] C8.E0 (tVar 0) tNil) (tNil))) (gName 2) (tYes) (tOp (rIxL K) (tFld K (tVar 0) "cells") (tOp rModI (tOp rAddI (tFld K (tVar 0) "taken") (tVar 2)) (tVar 1))) [2]))
section
variable {K : PySem.W.Frag} {p l : Addr} {cells xs : List V} {w t n : Nat} {v : V} {F : List Atom} {H : Hp} {Q : VK} {E : XK}
theorem rg_closeG (x : Own H (ob p (He.ga K "Ring") (fs_Ring (.ref l) (.int (w : Int)) (.int (t : Int))) :: pt l (.lst cells) :: F)) (g : Rg cells w t n xs) : Own H (rgA K p n xs :: F) :=
  rg_close (own_p2 (own_p2 (own_put g x)))
theorem use_Ring_held_o (x : Own H (ob p (He.ga K "Ring") (fs_Ring (.ref l) (.int (w : Int)) (.int (t : Int))) :: pt l (.lst cells) :: F)) (g : Rg cells w t n xs) (k : Q (.int (xs.length : Int)) H) : sp_Ring_held K [.ref p] H Q E := use_Ring_held (rg_closeG x g) k
theorem use_Ring_is_full_o (x : Own H (ob p (He.ga K "Ring") (fs_Ring (.ref l) (.int (w : Int)) (.int (t : Int))) :: pt l (.lst cells) :: F)) (g : Rg cells w t n xs) (k : Q (.bl (decide ((xs.length : Int) = (n : Int)))) H) : sp_Ring_is_full K [.ref p] H Q E := use_Ring_is_full (rg_closeG x g) k
variable {α : Type} {gm : α → V} {z : α} {zs : List α}
theorem use_Ring_put_m (x : Own H (rgA K p n (zs.map gm) :: F)) (h : zs.length < n) (k : ∀ H', Own H' (rgA K p n ((zs ++ [z]).map gm) :: F) → Q .non H') : sp_Ring_put K [.ref p, gm z] H Q E := use_Ring_put x (by rw [List.length_map]; exact h) (by rw [List.map_append] at k; exact k)
theorem use_Ring_held_m (x : Own H (rgA K p n (zs.map gm) :: F)) (k : Q (.int (zs.length : Int)) H) : sp_Ring_held K [.ref p] H Q E := use_Ring_held x (by rw [List.length_map]; exact k)
theorem rg_le (x : Own H (rgA K p n (zs.map gm) :: F)) : zs.length ≤ n := by
  obtain ⟨l, cells, w, t, y⟩ := rg_open x
  have := (own_pu (own_p2 y)).1.hx
  rwa [List.length_map] at this
end

local macro_rules | `(tactic| row_cond sl_close) => `(tactic| apply rg_close)
local macro_rules | `(tactic| row_cond sl_use) => `(tactic| ((with_reducible refine hd_sp_Ring_init ?_); (with_reducible refine use_Ring_init (by row_cond sl_own) ?k1 ?_); (case k1 => row_cond sl_ar); (rename Own _ _ => hO0; rename Hp => hq0; intro H1 hH1; clear hO0; (try clear hq0))))
local macro_rules | `(tactic| row_cond sl_use) => `(tactic| ((with_reducible refine hd_sp_Ring_held ?_); (with_reducible refine use_Ring_held (by row_cond sl_own) ?_)))
local macro_rules | `(tactic| row_cond sl_use) => `(tactic| ((with_reducible refine hd_sp_Ring_is_full ?_); (with_reducible refine use_Ring_is_full (by row_cond sl_own) ?_)))
local macro_rules | `(tactic| row_cond sl_use) => `(tactic| ((with_reducible refine hd_sp_Ring_put ?_); (with_reducible refine use_Ring_put (by row_cond sl_own) ?k1 ?_); (case k1 => row_cond sl_ar); (rename Own _ _ => hO0; rename Hp => hq0; intro H1 hH1; clear hO0; (try clear hq0))))
local macro_rules | `(tactic| row_cond sl_use) => `(tactic| ((with_reducible refine hd_sp_Ring_listed ?_); (with_reducible refine use_Ring_listed (by row_cond sl_own) ?k1 ?_); (case k1 => row_cond sl_ar); (rename Own _ _ => hO0; rename Hp => hq0; intro q H1 hH1; clear hO0; (try clear hq0))))
local macro_rules | `(tactic| row_cond sl_use) => `(tactic| ((with_reducible refine hd_sp_Ring_first ?_); first | (with_reducible refine use_Ring_first_c (by row_cond sl_own) ?_) | (with_reducible refine use_Ring_first_m (by row_cond sl_own) ?_)))
local macro_rules | `(tactic| row_cond sl_use) => `(tactic| ((with_reducible refine hd_sp_Ring_take ?_); first | ((with_reducible refine use_Ring_take_nm (by row_cond sl_own) ?_); row_cond sl_ipH) | ((with_reducible refine use_Ring_take_c (by row_cond sl_own) ?_); row_cond sl_iH) | ((with_reducible refine use_Ring_take_m (by row_cond sl_own) ?_); row_cond sl_iH) | ((with_reducible refine use_Ring_take_n (by row_cond sl_own) ?_); row_cond sl_ipH)))
local macro_rules | `(tactic| row_cond sl_use) => `(tactic| first
  | (with_reducible refine hd_sp_Ring_held ?_); (with_reducible refine use_Ring_held_m (by row_cond sl_own) ?_)
  | (with_reducible refine hd_sp_Ring_first ?_); (with_reducible refine use_Ring_first_m (by row_cond sl_own) ?_)
  | ((with_reducible refine hd_sp_Ring_take ?_); (with_reducible refine use_Ring_take_m (by row_cond sl_own) ?_); row_cond sl_iH)
  | ((with_reducible refine hd_sp_Ring_put ?_); (with_reducible refine use_Ring_put_m (by row_cond sl_own) ?k1 ?_); (case k1 => row_cond sl_ar); row_cond sl_iH)
  | (with_reducible refine hd_sp_Ring_held ?_); (with_reducible refine use_Ring_held_o (by row_cond sl_own2) (by assumption) ?_)
  | (with_reducible refine hd_sp_Ring_is_full ?_); (with_reducible refine use_Ring_is_full_o (by row_cond sl_own2) (by assumption) ?_)
  | (with_reducible refine hd_sp_Ring_first ?_); (with_reducible refine use_Ring_first_o (by row_cond sl_own2) (by assumption) ?_))


section
variable {K : PySem.W.Frag} [Tx_Ring K] {vs : List V} {H : Hp} {Q : VK} {E : XK}
theorem pu_Ring_init (h : sp_Ring_init K vs H Q E) : t_Ring_init K (De Q) (start ["self", "cells"] vs) H := by
  obtain ⟨p, n, F, rfl, hp, hH, k⟩ := h
  show t_Ring_init K (De Q) [some (.ref p), some (.int n)] H
  unfold t_Ring_init
  row_cond sl_go
  rename Own _ _ => hO
  refine k _ (Own.cons_mono (rg_closeG (w := 0) (t := 0) hO (rg_new (by omega))) ?_)
  intro h1 z1
  row_cond sl_drop
theorem pu_Ring_held (h : sp_Ring_held K vs H Q E) : t_Ring_held K (De Q) (start ["self", "many"] vs) H := by
  obtain ⟨p, n, xs, F, rfl, hH, k⟩ := h
  obtain ⟨l, cells, w, t, hO⟩ := rg_open hH
  clear hH
  obtain ⟨g, hO⟩ := own_pu (own_p2 hO)
  have h1 := g.hn
  have h2 := g.hl
  show t_Ring_held K (De Q) [some (.ref p), none] H
  unfold t_Ring_held
  row_cond sl_go
  rw [h2, rg_held g]
  exact k
theorem pu_Ring_is_full (h : sp_Ring_is_full K vs H Q E) : t_Ring_is_full K (De Q) (start ["self"] vs) H := by
  obtain ⟨p, n, xs, F, rfl, hH, k⟩ := h
  obtain ⟨l, cells, w, t, hO⟩ := rg_open hH
  clear hH
  obtain ⟨g, hO⟩ := own_pu (own_p2 hO)
  have h1 := g.hn
  have h2 := g.hl
  show t_Ring_is_full K (De Q) [some (.ref p)] H
  unfold t_Ring_is_full
  row_cond sl_go
  rw [h2]
  exact k
theorem pu_Ring_put (h : sp_Ring_put K vs H Q E) : t_Ring_put K (De Q) (start ["self", "value", "many"] vs) H := by
  obtain ⟨p, n, xs, v, F, rfl, hp, hH, k⟩ := h
  obtain ⟨l, cells, w, t, hO⟩ := rg_open hH
  clear hH
  obtain ⟨g, hO⟩ := own_pu (own_p2 hO)
  have h1 := g.hn
  have h2 := g.hl
  have h3 := rg_ix g
  have h4 := rg_put (v := v) g hp
  show t_Ring_put K (De Q) [some (.ref p), some v, none] H
  unfold t_Ring_put
  rw [← h2] at h3
  row_cond sl_go
  rename Own _ _ => hO
  have e : ((w : Int) + 1) % (2 * (n : Int)) = (((w + 1) % (2 * n) : Nat) : Int) := by simp
  rw [h2, e] at hO
  exact k _ (rg_closeG hO h4)
theorem pu_Ring_first (h : sp_Ring_first K vs H Q E) : t_Ring_first K (WD E) (De Q) (start ["self"] vs) H := by
  obtain ⟨p, n, xs, F, rfl, hH, k, ke⟩ := h
  obtain ⟨l, cells, w, t, hO0⟩ := rg_open hH
  clear hH
  obtain ⟨g, hO⟩ := own_pu (own_p2 hO0)
  clear hO0
  have h1 := g.hn
  have h2 := g.hl
  show t_Ring_first K (WD E) (De Q) [some (.ref p)] H
  unfold t_Ring_first
  cases xs with
  | nil =>
    row_cond sl_go
    rename Own _ _ => hO
    exact ke rfl _ _ (Own.cons_mono hO fun _ z => rg_closeG z g)
  | cons v ys =>
    have h3 := rg_at0 g
    rw [← h2] at h3
    row_cond sl_go
    exact k v ys rfl
theorem pu_Ring_take (h : sp_Ring_take K vs H Q E) : t_Ring_take K (WD E) (De Q) (start ["self", "value", "many"] vs) H := by
  obtain ⟨p, n, xs, F, rfl, hH, k, ke⟩ := h
  show t_Ring_take K (WD E) (De Q) [some (.ref p), none, none] H
  unfold t_Ring_take
  row_cond sl_go
  refine use_Ring_first hH (fun v ys e => ?_) (fun e d H' hO => ?_)
  · subst e
    obtain ⟨l, cells, w, t, hO⟩ := rg_open hH
    clear hH
    obtain ⟨g, hO⟩ := own_pu (own_p2 hO)
    have h1 := g.hn
    have h2 := g.hl
    have h3 := rg_ixt g
    have h4 := rg_take g
    rw [← h2] at h3
    row_cond sl_go
    rename Own _ _ => hO
    have e : ((t : Int) + 1) % (2 * (n : Int)) = (((t + 1) % (2 * n) : Nat) : Int) := by simp
    rw [h2, e] at hO
    exact k v ys rfl _ (rg_closeG hO h4)
  · exact ke e _ _ hO
theorem pu_Ring_listed (h : sp_Ring_listed K vs H Q E) : t_Ring_listed K (De Q) (start ["self", "many", "k"] vs) H := by
  obtain ⟨p, n, xs, F, rfl, hp, hH, k⟩ := h
  obtain ⟨l, cells, w, t, hO⟩ := rg_open hH
  clear hH
  obtain ⟨g, hO⟩ := own_pu (own_p2 hO)
  have h1 := g.hn
  have h2 := g.hl
  have h3 := g.hx
  show t_Ring_listed K (De Q) [some (.ref p), none, none] H
  unfold t_Ring_listed
  row_cond sl_go
  refine comp_rangeP [some (.ref p), some (.int (cells.length : Int)), none] (fun _ => true) (fun i => xs.getD i .non) (by omega) rfl hO ?_ ?_
  · intro i G H' Y N hi w1 hY hN
    have e : xs[i]? = some (xs.getD i .non) := by
      rw [List.getD_eq_getElem?_getD, List.getElem?_eq_getElem hi] <;> rfl
    have h4 := rg_at g e
    rw [← h2] at h4
    clear hO
    row_cond sl_go
    exact hY rfl _ w1
  · intro D H' w1
    have e : ((List.range xs.length).filter fun _ => true).map (fun i => xs.getD i .non) = xs := by
      rw [List.filter_eq_self.mpr (fun _ _ => rfl)]
      refine List.ext_getElem (by simp) fun i a b => ?_
      rw [List.getElem_map, List.getElem_range, List.getD_eq_getElem?_getD, List.getElem?_eq_getElem b] <;> rfl
    rw [e] at w1
    refine k _ _ (Own.cons_mono w1 ?_)
    intro h1 z1
    exact rg_closeG z1 g
end
/-! ## sr -/
/-! ### SlotRing -/
class Tx_SlotRing (K : PySem.W.Frag) : Prop where
  cl : Cls K (He.ga K "SlotRing")
  n_slots : NoAttr K (He.ga K "SlotRing") "slots"
  n_armed : NoAttr K (He.ga K "SlotRing") "armed"
  n_filled : NoAttr K (He.ga K "SlotRing") "filled"
  n_added : NoAttr K (He.ga K "SlotRing") "added"
def ks_SlotRing : List Str := ["slots", "armed", "filled", "added"]
theorem nd_SlotRing : ks_SlotRing.Nodup := by decide +kernel
theorem nm_SlotRing : ∀ m ∈ (["__init__", "can_arm", "arm", "open_slot", "open_bytes", "open_count", "add", "close", "oldest", "reap", "filled_slots", "buffers"] : List Str), m ∉ ks_SlotRing := by decide +kernel
def fs_SlotRing (a0 a1 a2 a3 : V) : List (Str × V) := [("slots", a0), ("armed", a1), ("filled", a2), ("added", a3)]
theorem fz_SlotRing (a0 a1 a2 a3 : V) : fs_SlotRing a0 a1 a2 a3 = ks_SlotRing.zip [a0, a1, a2, a3] := rfl
section
variable {K : PySem.W.Frag} {y a0 a1 a2 a3 : V} {m : Str}
instance [T : Tx_SlotRing K] : Cl K (He.ga K "SlotRing") := ⟨T.cl⟩
instance [T : Tx_SlotRing K] : Na K (He.ga K "SlotRing") "slots" := ⟨T.n_slots⟩
instance [T : Tx_SlotRing K] : Na K (He.ga K "SlotRing") "armed" := ⟨T.n_armed⟩
instance [T : Tx_SlotRing K] : Na K (He.ga K "SlotRing") "filled" := ⟨T.n_filled⟩
instance [T : Tx_SlotRing K] : Na K (He.ga K "SlotRing") "added" := ⟨T.n_added⟩
instance : Lk (fs_SlotRing a0 a1 a2 a3) "slots" a0 := ⟨lookup_zip (ks := ks_SlotRing) (vs := [a0, a1, a2, a3]) (i := 0) nd_SlotRing rfl rfl⟩
instance : Pf "slots" y (fs_SlotRing a0 a1 a2 a3) (fs_SlotRing y a1 a2 a3) := ⟨putF_zip (ks := ks_SlotRing) (vs := [a0, a1, a2, a3]) (i := 0) nd_SlotRing rfl rfl⟩
instance : Lk (fs_SlotRing a0 a1 a2 a3) "armed" a1 := ⟨lookup_zip (ks := ks_SlotRing) (vs := [a0, a1, a2, a3]) (i := 1) nd_SlotRing rfl rfl⟩
instance : Pf "armed" y (fs_SlotRing a0 a1 a2 a3) (fs_SlotRing a0 y a2 a3) := ⟨putF_zip (ks := ks_SlotRing) (vs := [a0, a1, a2, a3]) (i := 1) nd_SlotRing rfl rfl⟩
instance : Lk (fs_SlotRing a0 a1 a2 a3) "filled" a2 := ⟨lookup_zip (ks := ks_SlotRing) (vs := [a0, a1, a2, a3]) (i := 2) nd_SlotRing rfl rfl⟩
instance : Pf "filled" y (fs_SlotRing a0 a1 a2 a3) (fs_SlotRing a0 a1 y a3) := ⟨putF_zip (ks := ks_SlotRing) (vs := [a0, a1, a2, a3]) (i := 2) nd_SlotRing rfl rfl⟩
instance : Lk (fs_SlotRing a0 a1 a2 a3) "added" a3 := ⟨lookup_zip (ks := ks_SlotRing) (vs := [a0, a1, a2, a3]) (i := 3) nd_SlotRing rfl rfl⟩
instance : Pf "added" y (fs_SlotRing a0 a1 a2 a3) (fs_SlotRing a0 a1 a2 y) := ⟨putF_zip (ks := ks_SlotRing) (vs := [a0, a1, a2, a3]) (i := 3) nd_SlotRing rfl rfl⟩
instance : Lm (fs_SlotRing a0 a1 a2 a3) "__init__" := ⟨lookup_zip_none (ks := ks_SlotRing) (vs := [a0, a1, a2, a3]) (nm_SlotRing "__init__" (by simp))⟩
instance : Lm (fs_SlotRing a0 a1 a2 a3) "can_arm" := ⟨lookup_zip_none (ks := ks_SlotRing) (vs := [a0, a1, a2, a3]) (nm_SlotRing "can_arm" (by simp))⟩
instance : Lm (fs_SlotRing a0 a1 a2 a3) "arm" := ⟨lookup_zip_none (ks := ks_SlotRing) (vs := [a0, a1, a2, a3]) (nm_SlotRing "arm" (by simp))⟩
instance : Lm (fs_SlotRing a0 a1 a2 a3) "open_slot" := ⟨lookup_zip_none (ks := ks_SlotRing) (vs := [a0, a1, a2, a3]) (nm_SlotRing "open_slot" (by simp))⟩
instance : Lm (fs_SlotRing a0 a1 a2 a3) "open_bytes" := ⟨lookup_zip_none (ks := ks_SlotRing) (vs := [a0, a1, a2, a3]) (nm_SlotRing "open_bytes" (by simp))⟩
instance : Lm (fs_SlotRing a0 a1 a2 a3) "open_count" := ⟨lookup_zip_none (ks := ks_SlotRing) (vs := [a0, a1, a2, a3]) (nm_SlotRing "open_count" (by simp))⟩
instance : Lm (fs_SlotRing a0 a1 a2 a3) "add" := ⟨lookup_zip_none (ks := ks_SlotRing) (vs := [a0, a1, a2, a3]) (nm_SlotRing "add" (by simp))⟩
instance : Lm (fs_SlotRing a0 a1 a2 a3) "close" := ⟨lookup_zip_none (ks := ks_SlotRing) (vs := [a0, a1, a2, a3]) (nm_SlotRing "close" (by simp))⟩
instance : Lm (fs_SlotRing a0 a1 a2 a3) "oldest" := ⟨lookup_zip_none (ks := ks_SlotRing) (vs := [a0, a1, a2, a3]) (nm_SlotRing "oldest" (by simp))⟩
instance : Lm (fs_SlotRing a0 a1 a2 a3) "reap" := ⟨lookup_zip_none (ks := ks_SlotRing) (vs := [a0, a1, a2, a3]) (nm_SlotRing "reap" (by simp))⟩
instance : Lm (fs_SlotRing a0 a1 a2 a3) "filled_slots" := ⟨lookup_zip_none (ks := ks_SlotRing) (vs := [a0, a1, a2, a3]) (nm_SlotRing "filled_slots" (by simp))⟩
instance : Lm (fs_SlotRing a0 a1 a2 a3) "buffers" := ⟨lookup_zip_none (ks := ks_SlotRing) (vs := [a0, a1, a2, a3]) (nm_SlotRing "buffers" (by simp))⟩
instance : Ln (fs_SlotRing a0 a1 a2 a3) := ⟨by show 4 < 1000; decide⟩
instance (priority := 1100) : Pf "slots" y ([] : List (Str × V)) ([("slots", y)] : List (Str × V)) := ⟨putF_new (by show ("slots" : Str) ∉ ks_SlotRing.take 0; decide +kernel)⟩
instance (priority := 1100) : Pf "armed" y ([("slots", a0)] : List (Str × V)) ([("slots", a0), ("armed", y)] : List (Str × V)) := ⟨putF_new (by show ("armed" : Str) ∉ ks_SlotRing.take 1; decide +kernel)⟩
instance : Ln ([("slots", a0)] : List (Str × V)) := ⟨by show 1 < 1000; decide⟩
instance (priority := 1100) : Pf "filled" y ([("slots", a0), ("armed", a1)] : List (Str × V)) ([("slots", a0), ("armed", a1), ("filled", y)] : List (Str × V)) := ⟨putF_new (by show ("filled" : Str) ∉ ks_SlotRing.take 2; decide +kernel)⟩
instance : Ln ([("slots", a0), ("armed", a1)] : List (Str × V)) := ⟨by show 2 < 1000; decide⟩
instance : Pf "added" y ([("slots", a0), ("armed", a1), ("filled", a2)] : List (Str × V)) (fs_SlotRing a0 a1 a2 y) := ⟨putF_new (by show ("added" : Str) ∉ ks_SlotRing.take 3; decide +kernel)⟩
instance : Ln ([("slots", a0), ("armed", a1), ("filled", a2)] : List (Str × V)) := ⟨by show 3 < 1000; decide⟩
end
/-- a filled slot -/
structure Slot where
  buf : Int
  data : List Int
  lost : Int
  deriving DecidableEq
instance : Inhabited Slot := ⟨⟨0, [], 0⟩⟩
structure sltA (r : Addr) (s : Slot) (h : Hp) : Prop where
  e : ∃ d, al [pt r (.tup [.int s.buf, .ref d, .int s.lost]), pt d (.lst (s.data.map V.int))] h
theorem slt_open {r : Addr} {s : Slot} {F : List Atom} {H : Hp} (x : Own H (sltA r s :: F)) : ∃ d, Own H (pt r (.tup [.int s.buf, .ref d, .int s.lost]) :: pt d (.lst (s.data.map V.int)) :: F) := by
  obtain ⟨d, y⟩ := own_ex (x.mono1 fun _ q => q.e)
  exact ⟨d, own_in y⟩
theorem slt_close {r d : Addr} {s : Slot} {F : List Atom} {H : Hp} (x : Own H (pt r (.tup [.int s.buf, .ref d, .int s.lost]) :: pt d (.lst (s.data.map V.int)) :: F)) : Own H (sltA r s :: F) :=
  Own.mono1 (own_out (cs := [pt r (.tup [.int s.buf, .ref d, .int s.lost]), pt d (.lst (s.data.map V.int))]) x) fun _ q => ⟨⟨d, q⟩⟩
theorem slt_close' {r d : Addr} {b l : Int} {xs : List Int} {F : List Atom} {H : Hp} (x : Own H (pt r (.tup [.int b, .ref d, .int l]) :: pt d (.lst (xs.map V.int)) :: F)) : Own H (sltA r ⟨b, xs, l⟩ :: F) := slt_close (s := ⟨b, xs, l⟩) x
instance : Dat Slot where
  d := fun s => Dat.d (Tri.mk s.buf s.data s.lost)
  n := 2
  lay := fun s => Dat.lay (Tri.mk s.buf s.data s.lost)
  dep := fun s => Dat.dep (Tri.mk s.buf s.data s.lost)
  inj := fun s t h => by
    have e := Dat.inj (Tri.mk s.buf s.data s.lost) (Tri.mk t.buf t.data t.lost) h
    cases s
    cases t
    cases e
    rfl
theorem is_slt {K : PySem.W.Frag} {r : Addr} {s : Slot} {F : List Atom} {H : Hp} (w : Own H (sltA r s :: F)) : Is K H (.ref r) s := by
  obtain ⟨d, w⟩ := slt_open w
  exact .tup (SqT.of (own_pt w)) (.cons (.int _) (.cons (is_ints (own_pt (own_p1 w))) (.cons (.int _) .nil)))
theorem dpa_slt {K : PySem.W.Frag} : ∀ {rs : List Addr} {fi : List Slot} {F : List Atom} {H : Hp}, Own H (bgA sltA rs fi :: F) → DpAll K H (rs.map V.ref) (fi.map Dat.d)
  | [], [], _, _, _ => .nil
  | [], _ :: _, _, _, w => nomatch bg_len w
  | _ :: _, [], _, _, w => nomatch bg_len w
  | _ :: _, _ :: _, _, _, w => .cons (is_slt (bg_uncons w)) (dpa_slt (own_p1 (bg_uncons w)))
theorem is_slts {K : PySem.W.Frag} {a : Addr} {rs : List Addr} {fi : List Slot} {F : List Atom} {H : Hp} (w : Own H (pt a (.lst (rs.map V.ref)) :: bgA sltA rs fi :: F)) : Is K H (.ref a) fi := .lst (SqL.of (own_pt w)) (dpa_slt (own_p1 w))
structure srA (K : PySem.W.Frag) (p : Addr) (n : Nat) (ar : List Int) (fi : List Slot) (ad : List Int) (h : Hp) : Prop where
  e : ∃ a : Addr, ∃ f : Addr, ∃ l : Addr, ∃ rs : List Addr, al [ob p (He.ga K "SlotRing") (fs_SlotRing (.int (n : Int)) (.ref a) (.ref f) (.ref l)), rgA K a n (ar.map V.int), rgA K f n (rs.map V.ref), bgA sltA rs fi, pt l (.lst (ad.map V.int))] h
theorem sr_open {K : PySem.W.Frag} {p : Addr} {n : Nat} {ar : List Int} {fi : List Slot} {ad : List Int} {F : List Atom} {H : Hp} (x : Own H (srA K p n ar fi ad :: F)) : ∃ a : Addr, ∃ f : Addr, ∃ l : Addr, ∃ rs : List Addr, Own H (ob p (He.ga K "SlotRing") (fs_SlotRing (.int (n : Int)) (.ref a) (.ref f) (.ref l)) :: rgA K a n (ar.map V.int) :: rgA K f n (rs.map V.ref) :: bgA sltA rs fi :: pt l (.lst (ad.map V.int)) :: F) := by
  have y := x.mono1 fun _ q => q.e
  obtain ⟨a, y⟩ := own_ex y
  obtain ⟨f, y⟩ := own_ex y
  obtain ⟨l, y⟩ := own_ex y
  obtain ⟨rs, y⟩ := own_ex y
  exact ⟨a, f, l, rs, own_in y⟩
theorem sr_close {K : PySem.W.Frag} {p : Addr} {n : Nat} {ar : List Int} {fi : List Slot} {ad : List Int} {F : List Atom} {H : Hp} {a : Addr} {f : Addr} {l : Addr} {rs : List Addr} (x : Own H (ob p (He.ga K "SlotRing") (fs_SlotRing (.int (n : Int)) (.ref a) (.ref f) (.ref l)) :: rgA K a n (ar.map V.int) :: rgA K f n (rs.map V.ref) :: bgA sltA rs fi :: pt l (.lst (ad.map V.int)) :: F)) : Own H (srA K p n ar fi ad :: F) :=
  Own.mono1 (own_out (cs := [ob p (He.ga K "SlotRing") (fs_SlotRing (.int (n : Int)) (.ref a) (.ref f) (.ref l)), rgA K a n (ar.map V.int), rgA K f n (rs.map V.ref), bgA sltA rs fi, pt l (.lst (ad.map V.int))]) x) fun _ q => ⟨⟨a, f, l, rs, q⟩⟩
instance {K : PySem.W.Frag} {p : Addr} {n : Nat} {ar ad : List Int} {fi : List Slot} {m : Str} [i : ∀ a b c d, Lm (fs_SlotRing a b c d) m] : Mn (srA K p n ar fi ad) p (He.ga K "SlotRing") m := ⟨fun h ⟨⟨a, f, l, rs, y⟩⟩ => by
  obtain ⟨dx, e⟩ := own_ob y.e
  exact ⟨dx, _, e, (i _ _ _ _).h⟩⟩
structure accA (acc : List V) (xs : List Slot) (h : Hp) : Prop where
  e : ∃ rs : List Addr, acc = rs.map V.ref ∧ bgA sltA rs xs h
theorem acc_snoc {acc : List V} {xs : List Slot} {t : Addr} {s : Slot} {F : List Atom} {H : Hp} (x : Own H (sltA t s :: accA acc xs :: F)) : Own H (accA (acc ++ [.ref t]) (xs ++ [s]) :: F) := by
  obtain ⟨rs, y⟩ := own_ex ((own_p1 x).mono1 fun _ q => q.e)
  obtain ⟨_, ⟨e, _⟩, _⟩ := y.at1
  subst e
  exact (bg_snoc (own_p1 (y.mono1 fun _ q => q.2))).mono1 fun _ q => ⟨rs ++ [t], by rw [List.map_append] <;> rfl, q⟩
theorem acc_open {acc : List V} {xs : List Slot} {F : List Atom} {H : Hp} (x : Own H (accA acc xs :: F)) : ∃ rs : List Addr, acc = rs.map V.ref ∧ Own H (bgA sltA rs xs :: F) := by
  obtain ⟨rs, y⟩ := own_ex (x.mono1 fun _ q => q.e)
  obtain ⟨_, ⟨e, _⟩, _⟩ := y.at1
  exact ⟨rs, e, y.mono1 fun _ q => q.2⟩
def sp_SlotRing_init (K : PySem.W.Frag) : Sp := fun vs H Q _ => ∃ (p : Addr) (n : Int) (F : List Atom), vs = [.ref p, .int n] ∧ (0 < n ∧ n ≤ 1000) ∧ Own H (ob p (He.ga K "SlotRing") [] :: F) ∧ ∀  H', Own H' (srA K p n.toNat [] [] [] :: F) → Q (.non) H'
theorem hd_sp_SlotRing_init {K : PySem.W.Frag} {vs : List V} {H : Hp} {Q : VK} {E : XK} (k : sp_SlotRing_init K vs H Q E) : sp_SlotRing_init K vs H Q E := k
theorem use_SlotRing_init {K : PySem.W.Frag} {p : Addr} {n : Int} {F : List Atom} {H : Hp} {Q : VK} {E : XK} (x0 : Own H (ob p (He.ga K "SlotRing") [] :: F)) (hp : 0 < n ∧ n ≤ 1000) (k : ∀  H', Own H' (srA K p n.toNat [] [] [] :: F) → Q (.non) H') : sp_SlotRing_init K [.ref p, .int n] H Q E := ⟨p, n, F, rfl, hp, x0, k⟩
def sp_SlotRing_can_arm (K : PySem.W.Frag) : Sp := fun vs H Q _ => ∃ (p : Addr) (n : Nat) (ar : List Int) (fi : List Slot) (ad : List Int) (F : List Atom), vs = [.ref p] ∧ Own H (srA K p n ar fi ad :: F) ∧ Q (.bl (decide ((ar.length : Int) + (fi.length : Int) < (n : Int)))) H
theorem hd_sp_SlotRing_can_arm {K : PySem.W.Frag} {vs : List V} {H : Hp} {Q : VK} {E : XK} (k : sp_SlotRing_can_arm K vs H Q E) : sp_SlotRing_can_arm K vs H Q E := k
theorem use_SlotRing_can_arm {K : PySem.W.Frag} {p : Addr} {n : Nat} {ar : List Int} {fi : List Slot} {ad : List Int} {F : List Atom} {H : Hp} {Q : VK} {E : XK} (x0 : Own H (srA K p n ar fi ad :: F)) (k : Q (.bl (decide ((ar.length : Int) + (fi.length : Int) < (n : Int)))) H) : sp_SlotRing_can_arm K [.ref p] H Q E := ⟨p, n, ar, fi, ad, F, rfl, x0, k⟩
def sp_SlotRing_arm (K : PySem.W.Frag) : Sp := fun vs H Q _ => ∃ (p : Addr) (n : Nat) (ar : List Int) (fi : List Slot) (ad : List Int) (b : Int) (F : List Atom), vs = [.ref p, .int b] ∧ Own H (srA K p n ar fi ad :: F) ∧ ∀  H', Own H' (srA K p n (if (ar.length : Int) + (fi.length : Int) < (n : Int) then ar ++ [b] else ar) fi ad :: F) → Q (.bl (decide ((ar.length : Int) + (fi.length : Int) < (n : Int)))) H'
theorem hd_sp_SlotRing_arm {K : PySem.W.Frag} {vs : List V} {H : Hp} {Q : VK} {E : XK} (k : sp_SlotRing_arm K vs H Q E) : sp_SlotRing_arm K vs H Q E := k
theorem use_SlotRing_arm {K : PySem.W.Frag} {p : Addr} {n : Nat} {ar : List Int} {fi : List Slot} {ad : List Int} {b : Int} {F : List Atom} {H : Hp} {Q : VK} {E : XK} (x0 : Own H (srA K p n ar fi ad :: F)) (k : ∀  H', Own H' (srA K p n (if (ar.length : Int) + (fi.length : Int) < (n : Int) then ar ++ [b] else ar) fi ad :: F) → Q (.bl (decide ((ar.length : Int) + (fi.length : Int) < (n : Int)))) H') : sp_SlotRing_arm K [.ref p, .int b] H Q E := ⟨p, n, ar, fi, ad, b, F, rfl, x0, k⟩
def sp_SlotRing_open_slot (K : PySem.W.Frag) : Sp := fun vs H Q _ => ∃ (p : Addr) (n : Nat) (ar : List Int) (fi : List Slot) (ad : List Int) (F : List Atom), vs = [.ref p] ∧ Own H (srA K p n ar fi ad :: F) ∧ Q (vO ar.head?) H
theorem hd_sp_SlotRing_open_slot {K : PySem.W.Frag} {vs : List V} {H : Hp} {Q : VK} {E : XK} (k : sp_SlotRing_open_slot K vs H Q E) : sp_SlotRing_open_slot K vs H Q E := k
theorem use_SlotRing_open_slot {K : PySem.W.Frag} {p : Addr} {n : Nat} {ar : List Int} {fi : List Slot} {ad : List Int} {F : List Atom} {H : Hp} {Q : VK} {E : XK} (x0 : Own H (srA K p n ar fi ad :: F)) (k : Q (vO ar.head?) H) : sp_SlotRing_open_slot K [.ref p] H Q E := ⟨p, n, ar, fi, ad, F, rfl, x0, k⟩
def sp_SlotRing_open_bytes (K : PySem.W.Frag) : Sp := fun vs H Q _ => ∃ (p : Addr) (n : Nat) (ar : List Int) (fi : List Slot) (ad : List Int) (F : List Atom), vs = [.ref p] ∧ Own H (srA K p n ar fi ad :: F) ∧ ∀ (q : Addr) H', Own H' (pt q (.lst (ad.map V.int)) :: srA K p n ar fi ad :: F) → Q (.ref q) H'
theorem hd_sp_SlotRing_open_bytes {K : PySem.W.Frag} {vs : List V} {H : Hp} {Q : VK} {E : XK} (k : sp_SlotRing_open_bytes K vs H Q E) : sp_SlotRing_open_bytes K vs H Q E := k
theorem use_SlotRing_open_bytes {K : PySem.W.Frag} {p : Addr} {n : Nat} {ar : List Int} {fi : List Slot} {ad : List Int} {F : List Atom} {H : Hp} {Q : VK} {E : XK} (x0 : Own H (srA K p n ar fi ad :: F)) (k : ∀ (q : Addr) H', Own H' (pt q (.lst (ad.map V.int)) :: srA K p n ar fi ad :: F) → Q (.ref q) H') : sp_SlotRing_open_bytes K [.ref p] H Q E := ⟨p, n, ar, fi, ad, F, rfl, x0, k⟩
def sp_SlotRing_open_count (K : PySem.W.Frag) : Sp := fun vs H Q _ => ∃ (p : Addr) (n : Nat) (ar : List Int) (fi : List Slot) (ad : List Int) (F : List Atom), vs = [.ref p] ∧ Own H (srA K p n ar fi ad :: F) ∧ Q (.int (ad.length : Int)) H
theorem hd_sp_SlotRing_open_count {K : PySem.W.Frag} {vs : List V} {H : Hp} {Q : VK} {E : XK} (k : sp_SlotRing_open_count K vs H Q E) : sp_SlotRing_open_count K vs H Q E := k
theorem use_SlotRing_open_count {K : PySem.W.Frag} {p : Addr} {n : Nat} {ar : List Int} {fi : List Slot} {ad : List Int} {F : List Atom} {H : Hp} {Q : VK} {E : XK} (x0 : Own H (srA K p n ar fi ad :: F)) (k : Q (.int (ad.length : Int)) H) : sp_SlotRing_open_count K [.ref p] H Q E := ⟨p, n, ar, fi, ad, F, rfl, x0, k⟩
def sp_SlotRing_add (K : PySem.W.Frag) : Sp := fun vs H Q E => ∃ (p : Addr) (n : Nat) (ar : List Int) (fi : List Slot) (ad : List Int) (x : Int) (F : List Atom), vs = [.ref p, .int x] ∧ ad.length < 100000 ∧ Own H (srA K p n ar fi ad :: F) ∧ (ar ≠ [] → ∀ H', Own H' (srA K p n ar fi (ad ++ [x]) :: F) → Q .non H') ∧ (ar = [] → ∀ d H', Own H' (pt d (.xd [("held", .int 0)]) :: srA K p n [] fi ad :: F) → E (.ref (He.ga K "RingError")) (some d) H')
theorem hd_sp_SlotRing_add {K : PySem.W.Frag} {vs : List V} {H : Hp} {Q : VK} {E : XK} (k : sp_SlotRing_add K vs H Q E) : sp_SlotRing_add K vs H Q E := k
theorem use_SlotRing_add {K : PySem.W.Frag} {p : Addr} {n : Nat} {ar ad : List Int} {fi : List Slot} {x : Int} {F : List Atom} {H : Hp} {Q : VK} {E : XK} (x0 : Own H (srA K p n ar fi ad :: F)) (hp : ad.length < 100000) (k1 : ar ≠ [] → ∀ H', Own H' (srA K p n ar fi (ad ++ [x]) :: F) → Q .non H') (k2 : ar = [] → ∀ d H', Own H' (pt d (.xd [("held", .int 0)]) :: srA K p n [] fi ad :: F) → E (.ref (He.ga K "RingError")) (some d) H') : sp_SlotRing_add K [.ref p, .int x] H Q E := ⟨p, n, ar, fi, ad, x, F, rfl, hp, x0, k1, k2⟩
def sp_SlotRing_close (K : PySem.W.Frag) : Sp := fun vs H Q E => ∃ (p : Addr) (n : Nat) (ar : List Int) (fi : List Slot) (ad : List Int) (x : Int) (F : List Atom), vs = [.ref p, .int x] ∧ (ar ≠ [] → fi.length < n) ∧ Own H (srA K p n ar fi ad :: F) ∧ (∀ b as, ar = b :: as → ∀ H', Own H' (srA K p n as (fi ++ [⟨b, ad, x⟩]) [] :: F) → Q .non H') ∧ (ar = [] → ∀ d H', Own H' (pt d (.xd [("held", .int 0)]) :: srA K p n [] fi ad :: F) → E (.ref (He.ga K "RingError")) (some d) H')
theorem hd_sp_SlotRing_close {K : PySem.W.Frag} {vs : List V} {H : Hp} {Q : VK} {E : XK} (k : sp_SlotRing_close K vs H Q E) : sp_SlotRing_close K vs H Q E := k
theorem use_SlotRing_close {K : PySem.W.Frag} {p : Addr} {n : Nat} {ar ad : List Int} {fi : List Slot} {x : Int} {F : List Atom} {H : Hp} {Q : VK} {E : XK} (x0 : Own H (srA K p n ar fi ad :: F)) (hp : ar ≠ [] → fi.length < n) (k1 : ∀ b as, ar = b :: as → ∀ H', Own H' (srA K p n as (fi ++ [⟨b, ad, x⟩]) [] :: F) → Q .non H') (k2 : ar = [] → ∀ d H', Own H' (pt d (.xd [("held", .int 0)]) :: srA K p n [] fi ad :: F) → E (.ref (He.ga K "RingError")) (some d) H') : sp_SlotRing_close K [.ref p, .int x] H Q E := ⟨p, n, ar, fi, ad, x, F, rfl, hp, x0, k1, k2⟩
def sp_SlotRing_reap (K : PySem.W.Frag) : Sp := fun vs H Q E => ∃ (p : Addr) (n : Nat) (ar : List Int) (fi : List Slot) (ad : List Int) (F : List Atom), vs = [.ref p] ∧ Own H (srA K p n ar fi ad :: F) ∧ (∀ s fs, fi = s :: fs → ∀ q H', Own H' (sltA q s :: srA K p n ar fs ad :: F) → Q (.ref q) H') ∧ (fi = [] → ∀ d H', Own H' (pt d (.xd [("held", .int 0)]) :: srA K p n ar [] ad :: F) → E (.ref (He.ga K "RingError")) (some d) H')
theorem hd_sp_SlotRing_reap {K : PySem.W.Frag} {vs : List V} {H : Hp} {Q : VK} {E : XK} (k : sp_SlotRing_reap K vs H Q E) : sp_SlotRing_reap K vs H Q E := k
theorem use_SlotRing_reap {K : PySem.W.Frag} {p : Addr} {n : Nat} {ar ad : List Int} {fi : List Slot} {F : List Atom} {H : Hp} {Q : VK} {E : XK} (x0 : Own H (srA K p n ar fi ad :: F)) (k1 : ∀ s fs, fi = s :: fs → ∀ q H', Own H' (sltA q s :: srA K p n ar fs ad :: F) → Q (.ref q) H') (k2 : fi = [] → ∀ d H', Own H' (pt d (.xd [("held", .int 0)]) :: srA K p n ar [] ad :: F) → E (.ref (He.ga K "RingError")) (some d) H') : sp_SlotRing_reap K [.ref p] H Q E := ⟨p, n, ar, fi, ad, F, rfl, x0, k1, k2⟩
def sp_SlotRing_oldest (K : PySem.W.Frag) : Sp := fun vs H Q _ => ∃ (p : Addr) (n : Nat) (ar : List Int) (fi : List Slot) (ad : List Int) (F : List Atom), vs = [.ref p] ∧ Own H (srA K p n ar fi ad :: F) ∧ (match fi with | [] => Q .non H | s :: _ => ∀ q H', Own H' (sltA q s :: srA K p n ar fi ad :: F) → Q (.ref q) H')
theorem hd_sp_SlotRing_oldest {K : PySem.W.Frag} {vs : List V} {H : Hp} {Q : VK} {E : XK} (k : sp_SlotRing_oldest K vs H Q E) : sp_SlotRing_oldest K vs H Q E := k
def sp_SlotRing_filled_slots (K : PySem.W.Frag) : Sp := fun vs H Q _ => ∃ (p : Addr) (n : Nat) (ar : List Int) (fi : List Slot) (ad : List Int) (F : List Atom), vs = [.ref p] ∧ (n ≤ 1000) ∧ Own H (srA K p n ar fi ad :: F) ∧ ∀ (q : Addr) (rs : List Addr) H', Own H' (pt q (.lst (rs.map V.ref)) :: bgA sltA rs fi :: srA K p n ar fi ad :: F) → Q (.ref q) H'
theorem hd_sp_SlotRing_filled_slots {K : PySem.W.Frag} {vs : List V} {H : Hp} {Q : VK} {E : XK} (k : sp_SlotRing_filled_slots K vs H Q E) : sp_SlotRing_filled_slots K vs H Q E := k
theorem use_SlotRing_filled_slots {K : PySem.W.Frag} {p : Addr} {n : Nat} {ar : List Int} {fi : List Slot} {ad : List Int} {F : List Atom} {H : Hp} {Q : VK} {E : XK} (x0 : Own H (srA K p n ar fi ad :: F)) (hp : n ≤ 1000) (k : ∀ (q : Addr) (rs : List Addr) H', Own H' (pt q (.lst (rs.map V.ref)) :: bgA sltA rs fi :: srA K p n ar fi ad :: F) → Q (.ref q) H') : sp_SlotRing_filled_slots K [.ref p] H Q E := ⟨p, n, ar, fi, ad, F, rfl, hp, x0, k⟩
def sp_SlotRing_buffers (K : PySem.W.Frag) : Sp := fun vs H Q _ => ∃ (p : Addr) (n : Nat) (ar : List Int) (fi : List Slot) (ad : List Int) (F : List Atom), vs = [.ref p] ∧ (n ≤ 1000) ∧ Own H (srA K p n ar fi ad :: F) ∧ ∀ (q : Addr) H', Own H' (pt q (.lst ((fi.map Slot.buf ++ ar).map V.int)) :: srA K p n ar fi ad :: F) → Q (.ref q) H'
theorem hd_sp_SlotRing_buffers {K : PySem.W.Frag} {vs : List V} {H : Hp} {Q : VK} {E : XK} (k : sp_SlotRing_buffers K vs H Q E) : sp_SlotRing_buffers K vs H Q E := k
theorem use_SlotRing_buffers {K : PySem.W.Frag} {p : Addr} {n : Nat} {ar : List Int} {fi : List Slot} {ad : List Int} {F : List Atom} {H : Hp} {Q : VK} {E : XK} (x0 : Own H (srA K p n ar fi ad :: F)) (hp : n ≤ 1000) (k : ∀ (q : Addr) H', Own H' (pt q (.lst ((fi.map Slot.buf ++ ar).map V.int)) :: srA K p n ar fi ad :: F) → Q (.ref q) H') : sp_SlotRing_buffers K [.ref p] H Q E := ⟨p, n, ar, fi, ad, F, rfl, hp, x0, k⟩
noncomputable def t_SlotRing_init (K : PySem.W.Frag) : TS :=
  tSeq (sFld K (tVar 0) (tVar 1) "slots")
  (tSeq (sFld K (tVar 0) (tMake (He.ga K "Ring") (sp_Ring_init K) [] C8.E0 (tCons (tVar 1) (tNil))) "armed")
  (tSeq (sFld K (tVar 0) (tMake (He.ga K "Ring") (sp_Ring_init K) [] C8.E0 (tCons (tVar 1) (tNil))) "filled")
  (sFld K (tVar 0) (tLst (tNil)) "added")))
noncomputable def t_SlotRing_can_arm (K : PySem.W.Frag) : TS :=
  tRet (tOp rLtI (tOp rAddI (tMeth (He.ga K "Ring") "held" (sp_Ring_held K) [] C8.E0 (tFld K (tVar 0) "armed") tNil) (tMeth (He.ga K "Ring") "held" (sp_Ring_held K) [] C8.E0 (tFld K (tVar 0) "filled") tNil)) (tFld K (tVar 0) "slots"))
noncomputable def t_SlotRing_arm (K : PySem.W.Frag) : TS :=
  tSeq (tIfS (tNot (tB (tMeth (He.ga K "SlotRing") "can_arm" (sp_SlotRing_can_arm K) [] C8.E0 (tVar 0) tNil))) (tRet (tC (.bl false))) (tNext))
  (tSeq (tDrop (tMeth (He.ga K "Ring") "put" (sp_Ring_put K) [] C8.E0 (tFld K (tVar 0) "armed") (tCons (tVar 1) (tNil))))
  (tRet (tC (.bl true))))
noncomputable def t_SlotRing_open_slot (K : PySem.W.Frag) : TS :=
  tSeq (tIfS (tTest (tOp rEq (tMeth (He.ga K "Ring") "held" (sp_Ring_held K) [] C8.E0 (tFld K (tVar 0) "armed") tNil) (tC (.int 0)))) (tRet (tC .non)) (tNext))
  (tRet (tMethE (He.ga K "Ring") "first" (sp_Ring_first K) W0 (tFld K (tVar 0) "armed") tNil))
noncomputable def t_SlotRing_open_bytes (K : PySem.W.Frag) : TS :=
  tRet (tCB (rList K) (tCons (tFld K (tVar 0) "added") (tNil)))
noncomputable def t_SlotRing_open_count (K : PySem.W.Frag) : TS :=
  tRet (tCB (rLen K) (tCons (tFld K (tVar 0) "added") (tNil)))
noncomputable def t_SlotRing_add (K : PySem.W.Frag) (W : WX) : TS :=
  tSeq (tIfS (tTest (tOp rEq (tMeth (He.ga K "Ring") "held" (sp_Ring_held K) [] C8.E0 (tFld K (tVar 0) "armed") tNil) (tC (.int 0)))) (tRz (He.ga K "RingError") "held" W (tC (.int 0))) (tNext))
  (tDrop (tBM K "list" rAppend (tFld K (tVar 0) "added") (tCons (tVar 1) (tNil))))
noncomputable def t_SlotRing_close (K : PySem.W.Frag) (W : WX) : TS :=
  tSeq (tAsg (tMethE (He.ga K "Ring") "take" (sp_Ring_take K) W (tFld K (tVar 0) "armed") tNil) (gName 2))
  (tSeq (tDrop (tMeth (He.ga K "Ring") "put" (sp_Ring_put K) [] C8.E0 (tFld K (tVar 0) "filled") (tCons (tTup (tCons (tVar 2) (tCons (tFld K (tVar 0) "added") (tCons (tVar 1) (tNil))))) (tNil))))
  (sFld K (tVar 0) (tLst (tNil)) "added"))
noncomputable def t_SlotRing_oldest (K : PySem.W.Frag) : TS :=
  tSeq (tIfS (tTest (tOp rEq (tMeth (He.ga K "Ring") "held" (sp_Ring_held K) [] C8.E0 (tFld K (tVar 0) "filled") tNil) (tC (.int 0)))) (tRet (tC .non)) (tNext))
  (tSeq (tAsg (tMethE (He.ga K "Ring") "first" (sp_Ring_first K) W0 (tFld K (tVar 0) "filled") tNil) (gTup K 3 (gCons (gName 1) (gCons (gName 2) (gCons (gName 3) (gNil))))))
  (tRet (tTup (tCons (tVar 1) (tCons (tCB (rList K) (tCons (tVar 2) (tNil))) (tCons (tVar 3) (tNil)))))))
noncomputable def t_SlotRing_reap (K : PySem.W.Frag) (W : WX) : TS :=
  tRet (tMethE (He.ga K "Ring") "take" (sp_Ring_take K) W (tFld K (tVar 0) "filled") tNil)
noncomputable def t_SlotRing_filled_slots (K : PySem.W.Frag) : TS :=
  tRet (tLc (iList K (tMeth (He.ga K "Ring") "listed" (sp_Ring_listed K) [] C8.E0 (tFld K (tVar 0) "filled") tNil)) (gTup K 3 (gCons (gName 1) (gCons (gName 2) (gCons (gName 3) (gNil))))) (tYes) (tTup (tCons (tVar 1) (tCons (tCB (rList K) (tCons (tVar 2) (tNil))) (tCons (tVar 3) (tNil))))) [1, 2, 3])
noncomputable def t_SlotRing_buffers (K : PySem.W.Frag) : TS :=
  tRet (tOp rCat (tLc (iList K (tMeth (He.ga K "Ring") "listed" (sp_Ring_listed K) [] C8.E0 (tFld K (tVar 0) "filled") tNil)) (gName 1) (tYes) (tOp (rIxT K) (tVar 1) (tC (.int 0))) [1]) (tMeth (He.ga K "Ring") "listed" (sp_Ring_listed K) [] C8.E0 (tFld K (tVar 0) "armed") tNil))
section
variable {K : PySem.W.Frag} {p a f l : Addr} {n : Nat} {ar ad : List Int} {fi : List Slot} {s : Slot} {rs : List Addr} {F : List Atom} {H : Hp} {Q : VK} {E : XK}
theorem use_SlotRing_oldest_n (x : Own H (srA K p n ar [] ad :: F)) (k : Q .non H) : sp_SlotRing_oldest K [.ref p] H Q E := ⟨p, n, ar, [], ad, F, rfl, x, k⟩
theorem use_SlotRing_oldest_c (x : Own H (srA K p n ar (s :: fi) ad :: F)) (k : ∀ q H', Own H' (sltA q s :: srA K p n ar (s :: fi) ad :: F) → Q (.ref q) H') : sp_SlotRing_oldest K [.ref p] H Q E := ⟨p, n, ar, _, ad, F, rfl, x, k⟩
theorem use_SlotRing_can_arm_o (x : Own H (ob p (He.ga K "SlotRing") (fs_SlotRing (.int (n : Int)) (.ref a) (.ref f) (.ref l)) :: rgA K a n (ar.map V.int) :: rgA K f n (rs.map V.ref) :: bgA sltA rs fi :: pt l (.lst (ad.map V.int)) :: F)) (k : Q (.bl (decide ((ar.length : Int) + (fi.length : Int) < (n : Int)))) H) : sp_SlotRing_can_arm K [.ref p] H Q E := use_SlotRing_can_arm (sr_close x) k
theorem sr_le (x : Own H (srA K p n ar fi ad :: F)) : fi.length ≤ n ∧ ar.length ≤ n := by
  obtain ⟨a, f, l, rs, y⟩ := sr_open x
  have h1 := rg_le (own_p2 y)
  have h2 := bg_len (own_p3 y)
  exact ⟨by omega, rg_le (own_p1 y)⟩
end




local macro_rules | `(tactic| row_cond sl_close) => `(tactic| apply sr_close)
local macro_rules | `(tactic| row_cond sl_use) => `(tactic| ((with_reducible refine hd_sp_SlotRing_init ?_); (with_reducible refine use_SlotRing_init (by row_cond sl_own) ?k1 ?_); (case k1 => row_cond sl_ar); (rename Own _ _ => hO0; rename Hp => hq0; intro H1 hH1; clear hO0; (try clear hq0))))
local macro_rules | `(tactic| row_cond sl_use) => `(tactic| ((with_reducible refine hd_sp_SlotRing_can_arm ?_); (with_reducible refine use_SlotRing_can_arm (by row_cond sl_own) ?_)))
local macro_rules | `(tactic| row_cond sl_use) => `(tactic| ((with_reducible refine hd_sp_SlotRing_arm ?_); (with_reducible refine use_SlotRing_arm (by row_cond sl_own) ?_); (rename Own _ _ => hO0; rename Hp => hq0; intro H1 hH1; clear hO0; (try clear hq0))))
local macro_rules | `(tactic| row_cond sl_use) => `(tactic| ((with_reducible refine hd_sp_SlotRing_open_slot ?_); (with_reducible refine use_SlotRing_open_slot (by row_cond sl_own) ?_)))
local macro_rules | `(tactic| row_cond sl_use) => `(tactic| ((with_reducible refine hd_sp_SlotRing_open_bytes ?_); (with_reducible refine use_SlotRing_open_bytes (by row_cond sl_own) ?_); (rename Own _ _ => hO0; rename Hp => hq0; intro q H1 hH1; clear hO0; (try clear hq0))))
local macro_rules | `(tactic| row_cond sl_use) => `(tactic| ((with_reducible refine hd_sp_SlotRing_open_count ?_); (with_reducible refine use_SlotRing_open_count (by row_cond sl_own) ?_)))
local macro_rules | `(tactic| row_cond sl_use) => `(tactic| ((with_reducible refine hd_sp_SlotRing_filled_slots ?_); (with_reducible refine use_SlotRing_filled_slots (by row_cond sl_own) ?k1 ?_); (case k1 => row_cond sl_ar); (rename Own _ _ => hO0; rename Hp => hq0; intro q rs H1 hH1; clear hO0; (try clear hq0))))
local macro_rules | `(tactic| row_cond sl_use) => `(tactic| ((with_reducible refine hd_sp_SlotRing_buffers ?_); (with_reducible refine use_SlotRing_buffers (by row_cond sl_own) ?k1 ?_); (case k1 => row_cond sl_ar); (rename Own _ _ => hO0; rename Hp => hq0; intro q H1 hH1; clear hO0; (try clear hq0))))
local macro_rules | `(tactic| row_cond sl_use) => `(tactic| first
  | (with_reducible refine hd_sp_SlotRing_oldest ?_); (with_reducible refine use_SlotRing_oldest_n (by row_cond sl_own) ?_)
  | ((with_reducible refine hd_sp_SlotRing_oldest ?_); (with_reducible refine use_SlotRing_oldest_c (by row_cond sl_own) ?_); row_cond sl_ipH)
  | (with_reducible refine hd_sp_SlotRing_can_arm ?_); (with_reducible refine use_SlotRing_can_arm_o (by row_cond sl_own5) ?_))


section
variable {K : PySem.W.Frag} [Tx_Ring K] [Tx_SlotRing K] {vs : List V} {H : Hp} {Q : VK} {E : XK}
theorem pu_SlotRing_init (h : sp_SlotRing_init K vs H Q E) : t_SlotRing_init K (De Q) (start ["self", "slots"] vs) H := by
  obtain ⟨p, n, F, rfl, hp, hH, k⟩ := h
  obtain ⟨m, rfl⟩ := Int.eq_ofNat_of_zero_le (show 0 ≤ n by omega)
  show t_SlotRing_init K (De Q) [some (.ref p), some (.int (m : Int))] H
  unfold t_SlotRing_init
  row_cond sl_go
  rename Own _ _ => hO
  rename_i a f l _
  refine k _ (sr_close (a := a) (f := f) (l := l) (rs := []) ?_)
  have w := bg_nil (S := sltA) hO
  clear hO
  row_cond sl_own5
theorem pu_SlotRing_can_arm (h : sp_SlotRing_can_arm K vs H Q E) : t_SlotRing_can_arm K (De Q) (start ["self"] vs) H := by
  obtain ⟨p, n, ar, fi, ad, F, rfl, hH, k⟩ := h
  obtain ⟨a, f, l, rs, hO⟩ := sr_open hH
  clear hH
  show t_SlotRing_can_arm K (De Q) [some (.ref p)] H
  unfold t_SlotRing_can_arm
  row_cond sl_go
  have e := bg_len (own_p3 hO)
  rw [e]
  exact k
theorem pu_SlotRing_arm (h : sp_SlotRing_arm K vs H Q E) : t_SlotRing_arm K (De Q) (start ["self", "buffer"] vs) H := by
  obtain ⟨p, n, ar, fi, ad, b, F, rfl, hH, k⟩ := h
  show t_SlotRing_arm K (De Q) [some (.ref p), some (.int b)] H
  unfold t_SlotRing_arm
  row_cond sl_go
  · rename ¬ _ => hb
    rw [if_neg hb, decide_eq_false hb] at k
    exact k _ hH
  · rename _ < _ => hb
    rw [if_pos hb, decide_eq_true hb] at k
    obtain ⟨a, f, l, rs, hO⟩ := sr_open hH
    clear hH
    row_cond sl_go
    exact k _ (sr_close (by row_cond sl_own5))
theorem pu_SlotRing_open_bytes (h : sp_SlotRing_open_bytes K vs H Q E) : t_SlotRing_open_bytes K (De Q) (start ["self"] vs) H := by
  obtain ⟨p, n, ar, fi, ad, F, rfl, hH, k⟩ := h
  obtain ⟨a, f, l, rs, hO⟩ := sr_open hH
  clear hH
  show t_SlotRing_open_bytes K (De Q) [some (.ref p)] H
  unfold t_SlotRing_open_bytes
  row_cond sl_go
  all_goals first | exact k | exact k _ (by row_cond sl_fin) | exact k _ _ (by row_cond sl_fin)
theorem pu_SlotRing_open_count (h : sp_SlotRing_open_count K vs H Q E) : t_SlotRing_open_count K (De Q) (start ["self"] vs) H := by
  obtain ⟨p, n, ar, fi, ad, F, rfl, hH, k⟩ := h
  obtain ⟨a, f, l, rs, hO⟩ := sr_open hH
  clear hH
  show t_SlotRing_open_count K (De Q) [some (.ref p)] H
  unfold t_SlotRing_open_count
  row_cond sl_go
  all_goals first | exact k | exact k _ (by row_cond sl_fin) | exact k _ _ (by row_cond sl_fin)
theorem pu_SlotRing_open_slot (h : sp_SlotRing_open_slot K vs H Q E) : t_SlotRing_open_slot K (De Q) (start ["self"] vs) H := by
  obtain ⟨p, n, ar, fi, ad, F, rfl, hH, k⟩ := h
  obtain ⟨a, f, l, rs, hO⟩ := sr_open hH
  clear hH
  show t_SlotRing_open_slot K (De Q) [some (.ref p)] H
  unfold t_SlotRing_open_slot
  cases ar with
  | nil =>
    row_cond sl_go
    exact k
  | cons b ar =>
    row_cond sl_go
    exact k
theorem pu_SlotRing_add (h : sp_SlotRing_add K vs H Q E) : t_SlotRing_add K (WD E) (De Q) (start ["self", "byte"] vs) H := by
  obtain ⟨p, n, ar, fi, ad, x, F, rfl, hp, hH, k, ke⟩ := h
  obtain ⟨a, f, l, rs, hO⟩ := sr_open hH
  clear hH
  show t_SlotRing_add K (WD E) (De Q) [some (.ref p), some (.int x)] H
  unfold t_SlotRing_add
  cases ar with
  | nil =>
    row_cond sl_go
    rename Own _ _ => hO2
    exact ke rfl _ _ (Own.cons_mono hO2 fun _ z => sr_close z)
  | cons b ar =>
    row_cond sl_go
    exact k (List.cons_ne_nil _ _) _ (sr_close (by row_cond sl_own5))
theorem pu_SlotRing_close (h : sp_SlotRing_close K vs H Q E) : t_SlotRing_close K (WD E) (De Q) (start ["self", "lost", "buffer"] vs) H := by
  obtain ⟨p, n, ar, fi, ad, x, F, rfl, hp, hH, k, ke⟩ := h
  obtain ⟨a, f, l, rs, hO⟩ := sr_open hH
  clear hH
  have hl := bg_len (own_p3 hO)
  show t_SlotRing_close K (WD E) (De Q) [some (.ref p), some (.int x), none] H
  unfold t_SlotRing_close
  cases ar with
  | nil =>
    have hO := own_p1 hO
    row_cond sl_go
    rename Own _ _ => hO2
    exact ke rfl _ _ (Own.cons_mono hO2 fun _ z => sr_close (by row_cond sl_own5))
  | cons b ar =>
    have hp2 := hp (List.cons_ne_nil _ _)
    row_cond sl_go
    rename Own _ _ => hO
    refine k b ar rfl _ ?_
    have w := bg_snoc (own_p1 (own_p5 (slt_close' (own_p4 (own_p6 hO)))))
    exact sr_close (by row_cond sl_own5)
theorem pu_SlotRing_reap (h : sp_SlotRing_reap K vs H Q E) : t_SlotRing_reap K (WD E) (De Q) (start ["self"] vs) H := by
  obtain ⟨p, n, ar, fi, ad, F, rfl, hH, k, ke⟩ := h
  obtain ⟨a, f, l, rs, hO⟩ := sr_open hH
  clear hH
  have hl := bg_len (own_p3 hO)
  show t_SlotRing_reap K (WD E) (De Q) [some (.ref p)] H
  unfold t_SlotRing_reap
  cases fi with
  | nil =>
    have e : rs = [] := List.length_eq_zero_iff.mp hl
    subst e
    row_cond sl_go
    rename Own _ _ => hO2
    exact ke rfl _ _ (Own.cons_mono hO2 fun _ z => sr_close (rs := []) (by row_cond sl_own5))
  | cons s fi =>
    cases rs with
    | nil => cases hl
    | cons r rs =>
      replace hO := bg_uncons (own_p3 hO)
      row_cond sl_go
      rename Own _ _ => hO
      exact k s fi rfl _ _ (Own.cons_mono (own_p1 hO) fun _ z => sr_close (by row_cond sl_own5))
theorem pu_SlotRing_oldest (h : sp_SlotRing_oldest K vs H Q E) : t_SlotRing_oldest K (De Q) (start ["self", "buffer", "data", "lost"] vs) H := by
  obtain ⟨p, n, ar, fi, ad, F, rfl, hH, k⟩ := h
  obtain ⟨a, f, l, rs, hO⟩ := sr_open hH
  clear hH
  have hl := bg_len (own_p3 hO)
  show t_SlotRing_oldest K (De Q) [some (.ref p), none, none, none] H
  unfold t_SlotRing_oldest
  cases fi with
  | nil =>
    have e : rs = [] := List.length_eq_zero_iff.mp hl
    subst e
    row_cond sl_go
    exact k
  | cons s fi =>
    cases rs with
    | nil => cases hl
    | cons r rs =>
      obtain ⟨d, w⟩ := slt_open (bg_uncons (own_p3 hO))
      clear hO
      row_cond sl_go
      rename Own _ _ => hO
      exact k _ _ (Own.cons_mono (slt_close hO) fun _ z => by
        have w := bg_cons (slt_close z)
        exact sr_close (by row_cond sl_own5))
theorem pu_SlotRing_filled_slots (h : sp_SlotRing_filled_slots K vs H Q E) : t_SlotRing_filled_slots K (De Q) (start ["self", "buffer", "data", "lost"] vs) H := by
  obtain ⟨p, n, ar, fi, ad, F, rfl, hp, hH, k⟩ := h
  obtain ⟨a, f, l, rs, hO⟩ := sr_open hH
  clear hH
  have hl := bg_len (own_p3 hO)
  have hn := rg_le (own_p2 hO)
  show t_SlotRing_filled_slots K (De Q) [some (.ref p), none, none, none] H
  unfold t_SlotRing_filled_slots
  row_cond sl_go
  rename Own _ _ => hO; rename Addr => q
  refine comp_list (xs := rs.map V.ref) [some (.ref p), none, none, none] (by rw [List.length_map]; omega) rfl (fun i acc => accA acc (fi.take i) :: pt q (.lst (rs.map V.ref)) :: rgA K f n (rs.map V.ref) :: ob p (He.ga K "SlotRing") (fs_SlotRing (.int (n : Int)) (.ref a) (.ref f) (.ref l)) :: rgA K a n (ar.map V.int) :: bgA sltA rs fi :: pt l (.lst (ad.map V.int)) :: F) ?h0 (fun i acc H' w => SqL.of (own_pt (own_p1 w))) ?_ ?_
  case h0 => exact (bg_nil (S := sltA) hO).mono1 fun _ z => ⟨[], rfl, z⟩
  · intro i v acc G H' Y N hi _ w hY hN
    clear hO
    rw [List.getElem?_map] at hi
    have hi2 : i < fi.length := by
      rw [← hl]
      cases e : rs[i]? with
      | none => rw [e] at hi; cases hi
      | some r => exact (List.getElem?_eq_some_iff.mp e).1
    obtain ⟨s, hs⟩ : ∃ s, fi[i]? = some s := ⟨_, List.getElem?_eq_getElem hi2⟩
    obtain ⟨r, hr, w2⟩ := bg_focus (own_p6 w) hs
    rw [hr] at hi
    cases hi
    obtain ⟨d, w3⟩ := slt_open w2
    have h1 := own_pt w3
    have h2 := own_pt (own_p1 w3)
    clear w2 w3
    row_cond sl_go
    rename Own _ _ => hO
    refine hY _ _ ?_
    have e2 : fi.take (i + 1) = fi.take i ++ [s] := by rw [List.take_succ, hs] <;> rfl
    rw [e2]
    exact own_p1 (acc_snoc (Own.cons_mono (slt_close hO) fun _ z => z.swap))
  · intro acc D H' _ w
    clear hO
    obtain ⟨rs2, rfl, w2⟩ := acc_open (own_p1 w)
    rw [List.length_map, hl, List.take_length] at w2
    refine k D rs2 _ ?_
    clear w
    exact Own.cons_mono (own_p1 w2) fun _ z => Own.cons_mono z fun _ z => (by row_cond sl_fin)
theorem pu_SlotRing_buffers (h : sp_SlotRing_buffers K vs H Q E) : t_SlotRing_buffers K (De Q) (start ["self", "slot"] vs) H := by
  obtain ⟨p, n, ar, fi, ad, F, rfl, hp, hH, k⟩ := h
  obtain ⟨a, f, l, rs, hO⟩ := sr_open hH
  clear hH
  have hl := bg_len (own_p3 hO)
  have hn := rg_le (own_p2 hO)
  show t_SlotRing_buffers K (De Q) [some (.ref p), none] H
  unfold t_SlotRing_buffers
  row_cond sl_go
  rename Own _ _ => hO; rename Addr => q
  refine comp_list (xs := rs.map V.ref) [some (.ref p), none] (by rw [List.length_map]; omega) rfl (fun i acc => pu (acc = ((fi.take i).map Slot.buf).map V.int) :: pt q (.lst (rs.map V.ref)) :: rgA K f n (rs.map V.ref) :: ob p (He.ga K "SlotRing") (fs_SlotRing (.int (n : Int)) (.ref a) (.ref f) (.ref l)) :: rgA K a n (ar.map V.int) :: bgA sltA rs fi :: pt l (.lst (ad.map V.int)) :: F) (own_put rfl hO) (fun i acc H' w => SqL.of (own_pt (own_p1 w))) ?_ ?_
  · intro i v acc G H' Y N hi _ w hY hN
    clear hO
    rw [List.getElem?_map] at hi
    have hi2 : i < fi.length := by
      rw [← hl]
      cases e : rs[i]? with
      | none => rw [e] at hi; cases hi
      | some r => exact (List.getElem?_eq_some_iff.mp e).1
    obtain ⟨s, hs⟩ : ∃ s, fi[i]? = some s := ⟨_, List.getElem?_eq_getElem hi2⟩
    obtain ⟨r, hr, w2⟩ := bg_focus (own_p6 w) hs
    rw [hr] at hi
    cases hi
    obtain ⟨d, w3⟩ := slt_open w2
    have h1 := own_pt w3
    clear w2 w3
    row_cond sl_go
    obtain ⟨e, w4⟩ := own_pu (own_p1 w)
    refine hY _ _ (own_p1 (own_put ?_ w4))
    have e2 : fi.take (i + 1) = fi.take i ++ [s] := by rw [List.take_succ, hs] <;> rfl
    rw [e, e2, List.map_append, List.map_append] <;> rfl
  · intro acc D H' _ w
    obtain ⟨rfl, w4⟩ := own_pu (own_p1 w)
    clear hO w
    rw [List.length_map, hl, List.take_length] at w4
    have hn2 := rg_le (own_p4 w4)
    row_cond sl_go
    rename Own _ _ => hO
    exact k _ _ (Own.cons_mono hO fun _ z => (by row_cond sl_fin))
end
/-! ## draw -/
/-- the law's state: cells left to be drawn from, a seed -/
structure stA (p : Addr) (h : Hp) : Prop where
  e : ∃ (l : Addr) (cells : List Int) (seed : Int), (∀ c ∈ cells, (0 : Int) ≤ c) ∧ al [pt p (.lst [.ref l, .int seed]), pt l (.lst (cells.map V.int))] h
theorem st_open {p : Addr} {F : List Atom} {H : Hp} (x : Own H (stA p :: F)) : ∃ (l : Addr) (cells : List Int) (seed : Int), (∀ c ∈ cells, (0 : Int) ≤ c) ∧ Own H (pt p (.lst [.ref l, .int seed]) :: pt l (.lst (cells.map V.int)) :: F) := by
  obtain ⟨l, y⟩ := own_ex (x.mono1 fun _ q => q.e)
  obtain ⟨cells, y⟩ := own_ex y
  obtain ⟨seed, y⟩ := own_ex y
  obtain ⟨h, ⟨c, _⟩, _⟩ := y.at1
  exact ⟨l, cells, seed, c, own_in (y.mono1 fun _ q => q.2)⟩
theorem st_close {p l : Addr} {cells : List Int} {seed : Int} {F : List Atom} {H : Hp} (c : ∀ c ∈ cells, (0 : Int) ≤ c) (x : Own H (pt p (.lst [.ref l, .int seed]) :: pt l (.lst (cells.map V.int)) :: F)) : Own H (stA p :: F) :=
  (own_out (cs := [pt p (.lst [.ref l, .int seed]), pt l (.lst (cells.map V.int))]) x).mono1 fun _ q => ⟨⟨l, cells, seed, c, q⟩⟩
def sp__law_state (K : PySem.W.Frag) : Sp := fun vs H Q _ => ∃ (a : Addr) (ns : List Int) (F : List Atom), vs = [.ref a] ∧ ns.length ≤ 63 ∧ Own H (sq K a (ns.map V.int) :: F) ∧ ∀ p H', Own H' (stA p :: sq K a (ns.map V.int) :: F) → Q (.ref p) H'
theorem hd_sp__law_state {K : PySem.W.Frag} {vs : List V} {H : Hp} {Q : VK} {E : XK} (k : sp__law_state K vs H Q E) : sp__law_state K vs H Q E := k
def sp__law_draw (K : PySem.W.Frag) : Sp := fun vs H Q _ => ∃ p n F, vs = [.ref p, .int n] ∧ 0 < n ∧ n < 1073741824 ∧ Own H (stA p :: F) ∧ ∀ v H', 0 ≤ v → v < n → Own H' (stA p :: F) → Q (.int v) H'
theorem hd_sp__law_draw {K : PySem.W.Frag} {vs : List V} {H : Hp} {Q : VK} {E : XK} (k : sp__law_draw K vs H Q E) : sp__law_draw K vs H Q E := k
theorem use__law_draw {K : PySem.W.Frag} {p : Addr} {n : Int} {F : List Atom} {H : Hp} {Q : VK} {E : XK} (x : Own H (stA p :: F)) (h : 0 < n ∧ n < 1073741824) (k : ∀ v H', 0 ≤ v → v < n → Own H' (stA p :: F) → Q (.int v) H') : sp__law_draw K [.ref p, .int n] H Q E := ⟨p, n, F, rfl, h.1, h.2, x, k⟩
theorem use__law_state {K : PySem.W.Frag} {a : Addr} {ns : List Int} {F : List Atom} {H : Hp} {Q : VK} {E : XK} (x : Own H (sq K a (ns.map V.int) :: F)) (h : ns.length ≤ 63) (k : ∀ p H', Own H' (stA p :: sq K a (ns.map V.int) :: F) → Q (.ref p) H') : sp__law_state K [.ref a] H Q E := ⟨a, ns, F, rfl, h, x, k⟩

local macro_rules | `(tactic| row_cond sl_use) => `(tactic| ((with_reducible refine hd_sp__law_draw ?_); (with_reducible refine use__law_draw (by row_cond sl_own) ?k1 ?_); (case k1 => row_cond sl_ar); row_cond sl_ivH))
local macro_rules | `(tactic| row_cond sl_use) => `(tactic| ((with_reducible refine hd_sp__law_state ?_); (with_reducible refine use__law_state (by row_cond sl_own) ?k1 ?_); (case k1 => row_cond sl_ar); row_cond sl_ipH))


noncomputable def t__law_state (K : PySem.W.Frag) : TS :=
  tSeq (tAsg (tC (.int 7)) (gName 1))
  (tSeq (tFor (iList K (tVar 0)) (gName 2) (tAsg (tOp rModI (tCB rInt (tCons (tOp rAddI (tOp rMulI (tVar 1) (tC (.int 31))) (tVar 2)) (tNil))) (tC (.int 1000003))) (gName 1)))
  (tRet (tLst (tCons (tLc (iList K (tVar 0)) (gName 2) (tYes) (tCB rAbs (tCons (tVar 2) (tNil))) [2]) (tCons (tOp rAddI (tVar 1) (tC (.int 1))) (tNil))))))
noncomputable def t__law_draw (K : PySem.W.Frag) : TS :=
  tSeq (tAsg (tOp (rIxL K) (tVar 0) (tC (.int 0))) (gName 2))
  (tSeq (tWhile (tAnd (tTest (tOp rGtI (tCB (rLen K) (tCons (tVar 2) (tNil))) (tC (.int 0)))) (tTest (tOp rEq (tOp (rIxL K) (tVar 2) (tC (.int 0))) (tC (.int 0))))) (tDrop (tBM K "list" rPopAt (tVar 2) (tCons (tC (.int 0)) (tNil)))))
  (tSeq (tIfS (tTest (tOp rGtI (tCB (rLen K) (tCons (tVar 2) (tNil))) (tC (.int 0)))) (tSeq (tAsg (tOp (rIxL K) (tVar 2) (tC (.int 0))) (gName 3))
  (tSeq (tAsg (tOp rDivI (tVar 3) (tVar 1)) (gSub (tVar 2) (tC (.int 0)) rSetL))
  (tRet (tOp rModI (tCB rInt (tCons (tVar 3) (tNil))) (tVar 1))))) (tNext))
  (tSeq (tAsg (tOp rModI (tCB rInt (tCons (tOp rAddI (tOp rMulI (tOp (rIxL K) (tVar 0) (tC (.int 1))) (tC (.int 48271))) (tC (.int 12345))) (tNil))) (tC (.int 2147483647))) (gName 4))
  (tSeq (tAsg (tVar 4) (gSub (tVar 0) (tC (.int 1)) rSetL))
  (tRet (tOp rModI (tCB rInt (tCons (tOp rDivI (tVar 4) (tC (.int 64))) (tNil))) (tVar 1)))))))
section
variable {K : PySem.W.Frag} {vs : List V} {H : Hp} {Q : VK} {E : XK}
theorem pu__law_draw (h : sp__law_draw K vs H Q E) : t__law_draw K (De Q) (start ["_law_state_here", "_law_many", "_law_cells", "_law_value", "_law_mixed"] vs) H := by
  obtain ⟨p, n, F, rfl, h1, h2, hH, k⟩ := h
  obtain ⟨l, cells, seed, hc, hO⟩ := st_open hH
  clear hH
  show t__law_draw K (De Q) [some (.ref p), some (.int n), none, none, none] H
  unfold t__law_draw
  row_cond sl_go
  refine loop_while (fun m σ' H' => σ' = [some (.ref p), some (.int n), some (.ref l), none, none] ∧ ∃ cs : List Int, cs.length = m ∧ (∀ c ∈ cs, (0 : Int) ≤ c) ∧ Own H' (pt p (.lst [.ref l, .int seed]) :: pt l (.lst (cs.map V.int)) :: F)) cells.length ⟨rfl, cells, rfl, hc, hO⟩ ?_
  rintro m σ' H1 ⟨rfl, cs, rfl, hc1, hO1⟩
  clear hO hc
  cases cs with
  | nil =>
    row_cond sl_go
    exact k _ _ (Int.emod_nonneg _ (by omega)) (Int.emod_lt_of_pos _ (by omega)) (st_close hc1 (by row_cond sl_own))
  | cons c cs =>
    have c0 : 0 ≤ c := hc1 c (List.mem_cons_self ..)
    have hc2 : ∀ z ∈ cs, (0 : Int) ≤ z := fun z hz => hc1 z (List.mem_cons_of_mem _ hz)
    row_cond sl_go
    · exact ⟨cs.length, Nat.lt_succ_self _, rfl, cs, rfl, hc2, by row_cond sl_own⟩
    · have hc3 : ∀ z ∈ c / n :: cs, (0 : Int) ≤ z := fun z hz => by
        rcases List.mem_cons.mp hz with e | hz
        · rw [e]
          exact Int.ediv_nonneg c0 (by omega)
        · exact hc2 z hz
      exact k _ _ (Int.emod_nonneg _ (by omega)) (Int.emod_lt_of_pos _ (by omega)) (st_close hc3 (own_p1 (by assumption)))
theorem pu__law_state (h : sp__law_state K vs H Q E) : t__law_state K (De Q) (start ["_law_script", "_law_seed", "_law_cell"] vs) H := by
  obtain ⟨a, ns, F, rfl, hl, hH, k⟩ := h
  show t__law_state K (De Q) [some (.ref a), none, none] H
  unfold t__law_state
  row_cond sl_go
  refine loop_listS (xs := ns.map V.int) (fun i σ' H' => ∃ (seed : Int) (v : Option V), σ' = [some (.ref a), some (.int seed), v] ∧ Own H' (sq K a (ns.map V.int) :: F)) ⟨7, none, rfl, hH⟩ (fun i σ' H' ⟨_, _, _, z⟩ => own_sq z) ?_ ?_
  · rintro i x σ' H' hi ⟨seed, v, rfl, z⟩
    obtain ⟨n, hn, rfl⟩ : ∃ n, ns[i]? = some n ∧ x = V.int n := by
      rw [List.getElem?_map] at hi
      cases e : ns[i]? with
      | none => rw [e] at hi; cases hi
      | some n => rw [e] at hi; exact ⟨n, rfl, (Option.some.inj hi).symm⟩
    clear hH
    row_cond sl_go
    exact ⟨_, _, rfl, z⟩
  · rintro σ' H' ⟨seed, v, rfl, z⟩
    clear hH
    row_cond sl_go
    refine comp_list (xs := ns.map V.int) [some (.ref a), some (.int seed), none] (by rw [List.length_map]; omega) rfl (fun i acc => pu (∃ cs : List Int, acc = cs.map V.int ∧ ∀ c ∈ cs, (0 : Int) ≤ c) :: sq K a (ns.map V.int) :: F) (own_put ⟨[], rfl, fun _ h => nomatch h⟩ z) (fun i acc H' w => own_sq w.tail) ?_ ?_
    · rintro i x acc G H1 Y N hi hl w hY hN
      obtain ⟨n, hn, rfl⟩ : ∃ n, ns[i]? = some n ∧ x = V.int n := by
        rw [List.getElem?_map] at hi
        cases e : ns[i]? with
        | none => rw [e] at hi; cases hi
        | some n => rw [e] at hi; exact ⟨n, rfl, (Option.some.inj hi).symm⟩
      clear z
      row_cond sl_go
      refine hY _ _ ?_
      obtain ⟨⟨cs, rfl, hc⟩, w2⟩ := own_pu (own_p1 w)
      refine Own.swap (own_put ⟨cs ++ [if n < 0 then -n else n], by rw [List.map_append]; rfl, fun c hc' => ?_⟩ w2)
      rcases List.mem_append.mp hc' with h | h
      · exact hc c h
      · rw [List.mem_singleton.mp h]
        split <;> omega
    · rintro acc D H1 hl w
      clear z
      obtain ⟨⟨cs, rfl, hc⟩, w2⟩ := own_pu (own_p1 w)
      clear w
      row_cond sl_go
      exact k _ _ (st_close hc (by row_cond sl_own))
end
/-! ## law05 -/
/-! plain: answers, and a deed -/
inductive An5 where
  | arm (b : Bool)
  | slot (s : Slot)
  | err
  | done
  deriving DecidableEq
structure S5 where
  ar : List Int
  fi : List Slot
  ad : List Int
/-- a deed -/
def st5 (n : Nat) (k x : Int) (s : S5) : An5 × S5 :=
  if k = 0 then (if (s.ar.length : Int) + (s.fi.length : Int) < n then (.arm true, ⟨s.ar ++ [x], s.fi, s.ad⟩) else (.arm false, s))
  else if k = 3 then (match s.fi with
    | [] => (.err, s)
    | t :: ts => (.slot t, ⟨s.ar, ts, s.ad⟩))
  else match s.ar with
    | [] => (.err, s)
    | b :: bs => if k = 1 then (.done, ⟨s.ar, s.fi, s.ad ++ [x]⟩) else (.done, ⟨bs, s.fi ++ [⟨b, s.ad, x⟩], []⟩)
/-- what always holds -/
structure I5 (n i : Nat) (s : S5) : Prop where
  l : s.ar.length + s.fi.length ≤ n
  d : s.ad.length ≤ i
  f : ∀ t ∈ s.fi, t.data.length ≤ i
theorem st5_0 {n : Nat} {x : Int} {s : S5} : st5 n 0 x s = if (s.ar.length : Int) + (s.fi.length : Int) < n then (.arm true, ⟨s.ar ++ [x], s.fi, s.ad⟩) else (.arm false, s) := rfl
theorem st5_3n {n : Nat} {x : Int} {ar ad : List Int} : st5 n 3 x ⟨ar, [], ad⟩ = (.err, ⟨ar, [], ad⟩) := rfl
theorem st5_3c {n : Nat} {x : Int} {ar ad : List Int} {t : Slot} {ts : List Slot} : st5 n 3 x ⟨ar, t :: ts, ad⟩ = (.slot t, ⟨ar, ts, ad⟩) := rfl
theorem st5_e {n : Nat} {k x : Int} {fi : List Slot} {ad : List Int} (h : k ≠ 0 ∧ k ≠ 3) : st5 n k x ⟨[], fi, ad⟩ = (.err, ⟨[], fi, ad⟩) := by
  unfold st5
  rw [if_neg h.1, if_neg h.2]
theorem st5_1 {n : Nat} {x b : Int} {bs : List Int} {fi : List Slot} {ad : List Int} : st5 n 1 x ⟨b :: bs, fi, ad⟩ = (.done, ⟨b :: bs, fi, ad ++ [x]⟩) := rfl
theorem st5_2 {n : Nat} {x b : Int} {bs : List Int} {fi : List Slot} {ad : List Int} : st5 n 2 x ⟨b :: bs, fi, ad⟩ = (.done, ⟨bs, fi ++ [⟨b, ad, x⟩], []⟩) := rfl
theorem I5.step {n i : Nat} {k x : Int} {s : S5} (h : I5 n i s) (hk : 0 ≤ k ∧ k ≤ 3) : I5 n (i + 1) (st5 n k x s).2 := by
  obtain ⟨h1, h2, h3⟩ := h
  obtain ⟨ar, fi, ad⟩ := s
  simp only at h1 h2 h3
  have h4 : ∀ t ∈ fi, t.data.length ≤ i + 1 := fun t ht => Nat.le_succ_of_le (h3 t ht)
  by_cases k0 : k = 0
  · subst k0
    rw [st5_0]
    by_cases hc : ((ar.length : Nat) : Int) + ((fi.length : Nat) : Int) < n
    · rw [if_pos hc]
      exact ⟨by simp only [List.length_append, List.length_cons, List.length_nil]; omega, by simp only []; omega, h4⟩
    · rw [if_neg hc]
      exact ⟨h1, Nat.le_succ_of_le h2, h4⟩
  · by_cases k3 : k = 3
    · subst k3
      cases fi with
      | nil =>
        rw [st5_3n]
        exact ⟨h1, Nat.le_succ_of_le h2, h4⟩
      | cons t ts =>
        rw [List.length_cons] at h1
        rw [st5_3c]
        exact ⟨by simp only []; omega, Nat.le_succ_of_le h2, fun u hu => h4 u (List.mem_cons_of_mem _ hu)⟩
    · cases ar with
      | nil =>
        rw [st5_e ⟨k0, k3⟩]
        exact ⟨h1, Nat.le_succ_of_le h2, h4⟩
      | cons b bs =>
        rw [List.length_cons] at h1
        by_cases k1 : k = 1
        · subst k1
          rw [st5_1]
          exact ⟨by simp only [List.length_cons]; omega, by simp only [List.length_append, List.length_cons, List.length_nil]; omega, h4⟩
        · obtain rfl : k = 2 := by omega
          rw [st5_2]
          refine ⟨by simp only [List.length_append, List.length_cons, List.length_nil]; omega, Nat.zero_le _, fun u hu => ?_⟩
          rcases List.mem_append.mp hu with hu | hu
          · exact h4 u hu
          · obtain rfl := List.mem_singleton.mp hu
            exact Nat.le_succ_of_le h2
instance : Dat An5 where
  d := fun e => match e with
    | .arm b => .tuple [.str "armed", .bool b]
    | .slot s => .tuple [.str "slot", Dat.d s]
    | .err => .tuple [.str "error", .int 0]
    | .done => .tuple [.str "done", .none]
  n := 3
  lay := fun e => by
    have h1 : PyData.canLay0 (.str "armed") = true := by decide +kernel
    have h2 : PyData.canLay0 (.str "slot") = true := by decide +kernel
    have h3 : PyData.canLay0 (.str "error") = true := by decide +kernel
    have h4 : PyData.canLay0 (.str "done") = true := by decide +kernel
    cases e with
    | arm b =>
      show (PyData.canLay0 (.str "armed") && true) = true
      rw [h1] <;> rfl
    | slot s =>
      show (PyData.canLay0 (.str "slot") && (PyData.canLay0 (Dat.d s) && true)) = true
      rw [h2, Dat.lay] <;> rfl
    | err =>
      show (PyData.canLay0 (.str "error") && true) = true
      rw [h3] <;> rfl
    | done =>
      show (PyData.canLay0 (.str "done") && true) = true
      rw [h4] <;> rfl
  dep := fun e => by
    cases e with
    | slot s =>
      show max 0 (max (PyData.depth (Dat.d s)) 0) + 1 ≤ 3
      have h : PyData.depth (Dat.d s) ≤ 2 := Dat.dep s
      omega
    | arm b => exact (by decide : 1 ≤ 3)
    | err => exact (by decide : 1 ≤ 3)
    | done => exact (by decide : 1 ≤ 3)
  inj := fun x y h => by
    have ts : ∀ {a b : Str} {xs ys : List PyData}, PyData.eqvAll (.str a :: xs) (.str b :: ys) = true → a = b := fun {a b xs ys} e => eq_of_beq (show (a == b) = true from (Bool.and_eq_true_iff.mp (show (PyData.eqv (.str a) (.str b) && PyData.eqvAll xs ys) = true from e)).1)
    cases x with
    | arm b =>
      cases y with
      | arm c =>
        have q : (PyData.eqv (.str "armed") (.str "armed") && (PyData.eqv (.bool b) (.bool c) && true)) = true := h
        simp only [Bool.and_eq_true] at q
        rw [eq_of_beq (show (b == c) = true from q.2.1)]
      | slot s => exact absurd (ts (show PyData.eqvAll [.str "armed", .bool b] [.str "slot", Dat.d s] = true from h)) (by decide +kernel)
      | err => exact absurd (ts (show PyData.eqvAll [.str "armed", .bool b] [.str "error", .int 0] = true from h)) (by decide +kernel)
      | done => exact absurd (ts (show PyData.eqvAll [.str "armed", .bool b] [.str "done", .none] = true from h)) (by decide +kernel)
    | slot s =>
      cases y with
      | arm c => exact absurd (ts (show PyData.eqvAll [.str "slot", Dat.d s] [.str "armed", .bool c] = true from h)) (by decide +kernel)
      | slot t =>
        have q : (PyData.eqv (.str "slot") (.str "slot") && (PyData.eqv (Dat.d s) (Dat.d t) && true)) = true := h
        simp only [Bool.and_eq_true] at q
        rw [Dat.inj s t q.2.1]
      | err => exact absurd (ts (show PyData.eqvAll [.str "slot", Dat.d s] [.str "error", .int 0] = true from h)) (by decide +kernel)
      | done => exact absurd (ts (show PyData.eqvAll [.str "slot", Dat.d s] [.str "done", .none] = true from h)) (by decide +kernel)
    | err =>
      cases y with
      | arm c => exact absurd (ts (show PyData.eqvAll [.str "error", .int 0] [.str "armed", .bool c] = true from h)) (by decide +kernel)
      | slot t => exact absurd (ts (show PyData.eqvAll [.str "error", .int 0] [.str "slot", Dat.d t] = true from h)) (by decide +kernel)
      | err => rfl
      | done => exact absurd (ts (show PyData.eqvAll [.str "error", .int 0] [.str "done", .none] = true from h)) (by decide +kernel)
    | done =>
      cases y with
      | arm c => exact absurd (ts (show PyData.eqvAll [.str "done", .none] [.str "armed", .bool c] = true from h)) (by decide +kernel)
      | slot t => exact absurd (ts (show PyData.eqvAll [.str "done", .none] [.str "slot", Dat.d t] = true from h)) (by decide +kernel)
      | err => exact absurd (ts (show PyData.eqvAll [.str "done", .none] [.str "error", .int 0] = true from h)) (by decide +kernel)
      | done => rfl
instance : Dat (Option Slot) where
  d := fun o => match o with
    | none => .none
    | some s => Dat.d s
  n := 2
  lay := fun o => by
    cases o with
    | none => rfl
    | some s => exact Dat.lay s
  dep := fun o => by
    cases o with
    | none => exact Nat.zero_le _
    | some s => exact Dat.dep s
  inj := fun x y h => by
    cases x with
    | none =>
      cases y with
      | none => rfl
      | some t => exact absurd (show false = true from h) (by decide)
    | some s =>
      cases y with
      | none => exact absurd (show false = true from h) (by decide)
      | some t => rw [Dat.inj s t h]
/-- an answer at q -/
structure anA (q : Addr) (x : An5) (h : Hp) : Prop where
  e : match x with
    | .arm b => al [pt q (.tup [.str "armed", .bl b])] h
    | .slot s => ∃ r, al [pt q (.tup [.str "slot", .ref r]), sltA r s] h
    | .err => al [pt q (.tup [.str "error", .int 0])] h
    | .done => al [pt q (.tup [.str "done", .non])] h
section
variable {K : PySem.W.Frag} {q r : Addr} {b : Bool} {s : Slot} {x : An5} {F : List Atom} {H : Hp}
theorem an_arm (w : Own H (pt q (.tup [.str "armed", .bl b]) :: F)) : Own H (anA q (.arm b) :: F) := Own.mono1 (own_out (cs := [pt q (.tup [.str "armed", .bl b])]) w) fun _ z => ⟨z⟩
theorem an_slot (w : Own H (pt q (.tup [.str "slot", .ref r]) :: sltA r s :: F)) : Own H (anA q (.slot s) :: F) := Own.mono1 (own_out (cs := [pt q (.tup [.str "slot", .ref r]), sltA r s]) w) fun _ z => ⟨⟨r, z⟩⟩
theorem an_err (w : Own H (pt q (.tup [.str "error", .int 0]) :: F)) : Own H (anA q .err :: F) := Own.mono1 (own_out (cs := [pt q (.tup [.str "error", .int 0])]) w) fun _ z => ⟨z⟩
theorem an_done (w : Own H (pt q (.tup [.str "done", .non]) :: F)) : Own H (anA q .done :: F) := Own.mono1 (own_out (cs := [pt q (.tup [.str "done", .non])]) w) fun _ z => ⟨z⟩
theorem is_an (w : Own H (anA q x :: F)) : Is K H (.ref q) x := by
  cases x with
  | arm b =>
    have w := own_in (w.mono1 fun _ z => z.e)
    exact .tup (SqT.of (own_pt w)) (.cons (.str _) (.cons (.bl _) .nil))
  | slot s =>
    obtain ⟨r, w⟩ := own_ex (w.mono1 fun _ z => z.e)
    have w := own_in w
    exact .tup (SqT.of (own_pt w)) (.cons (.str _) (.cons (is_slt (own_p1 w)) .nil))
  | err =>
    have w := own_in (w.mono1 fun _ z => z.e)
    exact .tup (SqT.of (own_pt w)) (.cons (.str _) (.cons (.int _) .nil))
  | done =>
    have w := own_in (w.mono1 fun _ z => z.e)
    exact .tup (SqT.of (own_pt w)) (.cons (.str _) (.cons .non .nil))
end
/-- the law's own lists -/
structure plA5 (q : Addr) (s : S5) (h : Hp) : Prop where
  e : ∃ (la ld lf : Addr) (rs : List Addr), al [pt q (.lst [.ref la, .ref ld, .ref lf]), pt la (.lst (s.ar.map V.int)), pt ld (.lst (s.ad.map V.int)), pt lf (.lst (rs.map V.ref)), bgA sltA rs s.fi] h
section
variable {q : Addr} {s : S5} {F : List Atom} {H : Hp}
theorem pl5_open (w : Own H (plA5 q s :: F)) : ∃ (la ld lf : Addr) (rs : List Addr), Own H (pt q (.lst [.ref la, .ref ld, .ref lf]) :: pt la (.lst (s.ar.map V.int)) :: pt ld (.lst (s.ad.map V.int)) :: pt lf (.lst (rs.map V.ref)) :: bgA sltA rs s.fi :: F) := by
  obtain ⟨la, w⟩ := own_ex (w.mono1 fun _ z => z.e)
  obtain ⟨ld, w⟩ := own_ex w
  obtain ⟨lf, w⟩ := own_ex w
  obtain ⟨rs, w⟩ := own_ex w
  exact ⟨la, ld, lf, rs, own_in w⟩
theorem pl5_close {la ld lf : Addr} {rs : List Addr} {ar ad : List Int} {fi : List Slot} (w : Own H (pt q (.lst [.ref la, .ref ld, .ref lf]) :: pt la (.lst (ar.map V.int)) :: pt ld (.lst (ad.map V.int)) :: pt lf (.lst (rs.map V.ref)) :: bgA sltA rs fi :: F)) : Own H (plA5 q ⟨ar, fi, ad⟩ :: F) :=
  Own.mono1 (own_out (cs := [pt q (.lst [.ref la, .ref ld, .ref lf]), pt la (.lst (ar.map V.int)), pt ld (.lst (ad.map V.int)), pt lf (.lst (rs.map V.ref)), bgA sltA rs fi]) w) fun _ z => ⟨⟨la, ld, lf, rs, z⟩⟩
end
theorem g_clear5 {K : PySem.W.Frag} {a : Addr} {xs : List V} {F : List Atom} {H : Hp} {Q : VK} (z : Own H (pt a (.lst xs) :: F)) (k : ∀ H1, Own H1 (pt a (.lst (([] : List Int).map V.int)) :: F) → Q .non H1) : rClear (.ref a) [] H Q := ⟨a, xs, rfl, rfl, own_pt z, k _ (own_set z rfl)⟩
def sp__law_deed (K : PySem.W.Frag) : Sp := fun vs H Q _ => ∃ (p : Addr) (n : Nat) (ar : List Int) (fi : List Slot) (ad : List Int) (kd x : Int) (F : List Atom), vs = [.ref p, .int kd, .int x] ∧ ((ar.length + fi.length ≤ n ∧ ad.length < 100000) ∧ (0 ≤ kd ∧ kd ≤ 3)) ∧ Own H (srA K p n ar fi ad :: F) ∧ ∀ (q : Addr) H', Own H' (anA q (st5 n kd x ⟨ar, fi, ad⟩).1 :: srA K p n (st5 n kd x ⟨ar, fi, ad⟩).2.ar (st5 n kd x ⟨ar, fi, ad⟩).2.fi (st5 n kd x ⟨ar, fi, ad⟩).2.ad :: F) → Q (.ref q) H'
theorem hd_sp__law_deed {K : PySem.W.Frag} {vs : List V} {H : Hp} {Q : VK} {E : XK} (k : sp__law_deed K vs H Q E) : sp__law_deed K vs H Q E := k
theorem use__law_deed {K : PySem.W.Frag} {p : Addr} {n : Nat} {ar : List Int} {fi : List Slot} {ad : List Int} {kd x : Int} {F : List Atom} {H : Hp} {Q : VK} {E : XK} (x0 : Own H (srA K p n ar fi ad :: F)) (hp : (ar.length + fi.length ≤ n ∧ ad.length < 100000) ∧ (0 ≤ kd ∧ kd ≤ 3)) (k : ∀ (q : Addr) H', Own H' (anA q (st5 n kd x ⟨ar, fi, ad⟩).1 :: srA K p n (st5 n kd x ⟨ar, fi, ad⟩).2.ar (st5 n kd x ⟨ar, fi, ad⟩).2.fi (st5 n kd x ⟨ar, fi, ad⟩).2.ad :: F) → Q (.ref q) H') : sp__law_deed K [.ref p, .int kd, .int x] H Q E := ⟨p, n, ar, fi, ad, kd, x, F, rfl, hp, x0, k⟩
def sp__law_plain (K : PySem.W.Frag) : Sp := fun vs H Q _ => ∃ (l : Addr) (n : Nat) (s : S5) (kd x : Int) (F : List Atom), vs = [.ref l, .int (n : Int), .int kd, .int x] ∧ ((s.ar.length + s.fi.length ≤ n ∧ s.ad.length < 100000 ∧ n ≤ 1000) ∧ (0 ≤ kd ∧ kd ≤ 3)) ∧ Own H (plA5 l s :: F) ∧ ∀ (q : Addr) H', Own H' (anA q (st5 n kd x s).1 :: plA5 l (st5 n kd x s).2 :: F) → Q (.ref q) H'
theorem hd_sp__law_plain {K : PySem.W.Frag} {vs : List V} {H : Hp} {Q : VK} {E : XK} (k : sp__law_plain K vs H Q E) : sp__law_plain K vs H Q E := k
theorem use__law_plain {K : PySem.W.Frag} {l : Addr} {n : Nat} {s : S5} {kd x : Int} {F : List Atom} {H : Hp} {Q : VK} {E : XK} (x0 : Own H (plA5 l s :: F)) (hp : (s.ar.length + s.fi.length ≤ n ∧ s.ad.length < 100000 ∧ n ≤ 1000) ∧ (0 ≤ kd ∧ kd ≤ 3)) (k : ∀ (q : Addr) H', Own H' (anA q (st5 n kd x s).1 :: plA5 l (st5 n kd x s).2 :: F) → Q (.ref q) H') : sp__law_plain K [.ref l, .int (n : Int), .int kd, .int x] H Q E := ⟨l, n, s, kd, x, F, rfl, hp, x0, k⟩
def sp__law_same (K : PySem.W.Frag) : Sp := fun vs H Q _ => ∃ (p l : Addr) (n : Nat) (ar : List Int) (fi : List Slot) (ad : List Int) (F : List Atom), vs = [.ref p, .ref l, .int (n : Int)] ∧ (ad.length < 100000 ∧ n ≤ 1000 ∧ ∀ t ∈ fi, t.data.length < 100000) ∧ Own H (srA K p n ar fi ad :: plA5 l ⟨ar, fi, ad⟩ :: F) ∧ ∀  H', Own H' (srA K p n ar fi ad :: plA5 l ⟨ar, fi, ad⟩ :: F) → Q (.bl true) H'
theorem hd_sp__law_same {K : PySem.W.Frag} {vs : List V} {H : Hp} {Q : VK} {E : XK} (k : sp__law_same K vs H Q E) : sp__law_same K vs H Q E := k
theorem use__law_same {K : PySem.W.Frag} {p l : Addr} {n : Nat} {ar : List Int} {fi : List Slot} {ad : List Int} {F : List Atom} {H : Hp} {Q : VK} {E : XK} (x0 : Own H (srA K p n ar fi ad :: plA5 l ⟨ar, fi, ad⟩ :: F)) (hp : ad.length < 100000 ∧ n ≤ 1000 ∧ ∀ t ∈ fi, t.data.length < 100000) (k : ∀  H', Own H' (srA K p n ar fi ad :: plA5 l ⟨ar, fi, ad⟩ :: F) → Q (.bl true) H') : sp__law_same K [.ref p, .ref l, .int (n : Int)] H Q E := ⟨p, l, n, ar, fi, ad, F, rfl, hp, x0, k⟩
def sp_law (K : PySem.W.Frag) : Sp := fun vs H Q _ => ∃ (a : Addr) (ns : List Int), vs = [.ref a] ∧ ns.length ≤ 63 ∧ SqL K H a (ns.map V.int) ∧ ∀ H', Q (.bl true) H'
theorem hd_sp_law {K : PySem.W.Frag} {vs : List V} {H : Hp} {Q : VK} {E : XK} (k : sp_law K vs H Q E) : sp_law K vs H Q E := k
noncomputable def t__law_deed (K : PySem.W.Frag) : TS :=
  tSeq (tTry K (He.ga K "RingError") 3 (fun W => tSeq (tIfS (tTest (tOp rEq (tVar 1) (tC (.int 0)))) (tRet (tTup (tCons (tC (.str "armed")) (tCons (tMeth (He.ga K "SlotRing") "arm" (sp_SlotRing_arm K) [] C8.E0 (tVar 0) (tCons (tVar 2) (tNil))) (tNil))))) (tNext))
  (tIfS (tTest (tOp rEq (tVar 1) (tC (.int 1)))) (tDrop (tMethE (He.ga K "SlotRing") "add" (sp_SlotRing_add K) W (tVar 0) (tCons (tVar 2) (tNil)))) (tIfS (tTest (tOp rEq (tVar 1) (tC (.int 2)))) (tDrop (tMethE (He.ga K "SlotRing") "close" (sp_SlotRing_close K) W (tVar 0) (tCons (tVar 2) (tNil)))) (tRet (tTup (tCons (tC (.str "slot")) (tCons (tMethE (He.ga K "SlotRing") "reap" (sp_SlotRing_reap K) W (tVar 0) tNil) (tNil)))))))) (fun xa xc xd => tRet (tTup (tCons (tC (.str "error")) (tCons (tXf xa xc xd (He.ga K "RingError") "held" (tVar 3)) (tNil))))))
  (tRet (tTup (tCons (tC (.str "done")) (tCons (tC .non) (tNil)))))
noncomputable def t__law_plain (K : PySem.W.Frag) : TS :=
  tSeq (tAsg (tVar 0) (gUnl K 3 (gCons (gName 4) (gCons (gName 5) (gCons (gName 6) (gNil))))))
  (tSeq (tIfS (tTest (tOp rEq (tVar 2) (tC (.int 0)))) (tSeq (tIfS (tTest (tOp rEq (tOp rAddI (tCB (rLen K) (tCons (tVar 4) (tNil))) (tCB (rLen K) (tCons (tVar 6) (tNil)))) (tVar 1))) (tRet (tTup (tCons (tC (.str "armed")) (tCons (tC (.bl false)) (tNil))))) (tNext))
  (tSeq (tDrop (tBM K "list" rAppend (tVar 4) (tCons (tVar 3) (tNil))))
  (tRet (tTup (tCons (tC (.str "armed")) (tCons (tC (.bl true)) (tNil))))))) (tNext))
  (tSeq (tIfS (tTest (tOp rEq (tVar 2) (tC (.int 3)))) (tSeq (tIfS (tTest (tOp rEq (tCB (rLen K) (tCons (tVar 6) (tNil))) (tC (.int 0)))) (tRet (tTup (tCons (tC (.str "error")) (tCons (tC (.int 0)) (tNil))))) (tNext))
  (tRet (tTup (tCons (tC (.str "slot")) (tCons (tBM K "list" rPopAt (tVar 6) (tCons (tC (.int 0)) (tNil))) (tNil)))))) (tNext))
  (tSeq (tIfS (tTest (tOp rEq (tCB (rLen K) (tCons (tVar 4) (tNil))) (tC (.int 0)))) (tRet (tTup (tCons (tC (.str "error")) (tCons (tC (.int 0)) (tNil))))) (tNext))
  (tSeqM (tIfS (tTest (tOp rEq (tVar 2) (tC (.int 1)))) (tDrop (tBM K "list" rAppend (tVar 5) (tCons (tVar 3) (tNil)))) (tSeq (tDrop (tBM K "list" rAppend (tVar 6) (tCons (tTup (tCons (tBM K "list" rPopAt (tVar 4) (tCons (tC (.int 0)) (tNil))) (tCons (tCB (rList K) (tCons (tVar 5) (tNil))) (tCons (tVar 3) (tNil))))) (tNil))))
  (tDrop (tBM0 K "list" rClear (tVar 5)))))
  (tRet (tTup (tCons (tC (.str "done")) (tCons (tC .non) (tNil)))))))))
noncomputable def t__law_same (K : PySem.W.Frag) : TS :=
  tSeq (tAsg (tVar 1) (gUnl K 3 (gCons (gName 3) (gCons (gName 4) (gCons (gName 5) (gNil))))))
  (tSeq (tAsg (tC .non) (gName 6))
  (tSeqM (tIfS (tTest (tOp rGtI (tCB (rLen K) (tCons (tVar 3) (tNil))) (tC (.int 0)))) (tAsg (tOp (rIxL K) (tVar 3) (tC (.int 0))) (gName 6)) (tNext))
  (tSeq (tAsg (tC .non) (gName 7))
  (tSeqM (tIfS (tTest (tOp rGtI (tCB (rLen K) (tCons (tVar 5) (tNil))) (tC (.int 0)))) (tAsg (tOp (rIxL K) (tVar 5) (tC (.int 0))) (gName 7)) (tNext))
  (tSeq (tAsg (tMeth (He.ga K "SlotRing") "can_arm" (sp_SlotRing_can_arm K) [] C8.E0 (tVar 0) tNil) (gName 8))
  (tSeq (tIfS (tOr (tNot (tB (tCB (rIsi K) (tCons (tVar 8) (tCons (tC (.ty "bool")) (tNil)))))) (tTest (tOp rNe (tVar 8) (tOp rLtI (tOp rAddI (tCB (rLen K) (tCons (tVar 3) (tNil))) (tCB (rLen K) (tCons (tVar 5) (tNil)))) (tVar 2))))) (tRet (tC (.bl false))) (tNext))
  (tSeq (tIfS (tOr (tTest (tOp rNe (tMeth (He.ga K "SlotRing") "open_slot" (sp_SlotRing_open_slot K) [] C8.E0 (tVar 0) tNil) (tVar 6))) (tOr (tTest (tOp (rNeD K) (tMeth (He.ga K "SlotRing") "open_bytes" (sp_SlotRing_open_bytes K) [] C8.E0 (tVar 0) tNil) (tVar 4))) (tTest (tOp rNe (tMeth (He.ga K "SlotRing") "open_count" (sp_SlotRing_open_count K) [] C8.E0 (tVar 0) tNil) (tCB (rLen K) (tCons (tVar 4) (tNil))))))) (tRet (tC (.bl false))) (tNext))
  (tSeq (tIfS (tOr (tTest (tOp (rNeD K) (tMeth (He.ga K "SlotRing") "oldest" (sp_SlotRing_oldest K) [] C8.E0 (tVar 0) tNil) (tVar 7))) (tTest (tOp (rNeD K) (tMeth (He.ga K "SlotRing") "filled_slots" (sp_SlotRing_filled_slots K) [] C8.E0 (tVar 0) tNil) (tVar 5)))) (tRet (tC (.bl false))) (tNext))
  (tSeq (tDrop (tBM K "list" rAppend (tMeth (He.ga K "SlotRing") "open_bytes" (sp_SlotRing_open_bytes K) [] C8.E0 (tVar 0) tNil) (tCons (tC (.int 3)) (tNil))))
  (tSeq (tFor (iList K (tMeth (He.ga K "SlotRing") "filled_slots" (sp_SlotRing_filled_slots K) [] C8.E0 (tVar 0) tNil)) (gName 9) (tDrop (tBM K "list" rAppend (tOp (rIxT K) (tVar 9) (tC (.int 1))) (tCons (tC (.int 4)) (tNil)))))
  (tSeqM (tIfS (tTest (tOp rNotN (tVar 7) (tC .non))) (tDrop (tBM K "list" rAppend (tOp (rIxT K) (tMeth (He.ga K "SlotRing") "oldest" (sp_SlotRing_oldest K) [] C8.E0 (tVar 0) tNil) (tC (.int 1))) (tCons (tC (.int 5)) (tNil)))) (tNext))
  (tRet (tOp (rEqD K) (tMeth (He.ga K "SlotRing") "buffers" (sp_SlotRing_buffers K) [] C8.E0 (tVar 0) tNil) (tOp rCat (tLc (iList K (tVar 5)) (gName 9) (tYes) (tOp (rIxT K) (tVar 9) (tC (.int 0))) [9]) (tVar 3)))))))))))))))
noncomputable def t_law (K : PySem.W.Frag) : TS :=
  tSeq (tAsg (tCall (sp__law_state K) [] C8.E0 (tCons (tVar 0) (tNil))) (gName 1))
  (tSeq (tAsg (tOp rAddI (tC (.int 1)) (tCall (sp__law_draw K) [] C8.E0 (tCons (tVar 1) (tCons (tOp (rIxL K) (tLst (tCons (tC (.int 8)) (tCons (tC (.int 32)) (tNil)))) (tCall (sp__law_draw K) [] C8.E0 (tCons (tVar 1) (tCons (tC (.int 2)) (tNil))))) (tNil))))) (gName 2))
  (tSeq (tAsg (tMake (He.ga K "SlotRing") (sp_SlotRing_init K) [] C8.E0 (tCons (tVar 2) (tNil))) (gName 3))
  (tSeq (tAsg (tLst (tCons (tLst (tNil)) (tCons (tLst (tNil)) (tCons (tLst (tNil)) (tNil))))) (gName 4))
  (tSeq (tFor (iRng1 (tCons (tOp rAddI (tC (.int 20)) (tCall (sp__law_draw K) [] C8.E0 (tCons (tVar 1) (tCons (tC (.int 80)) (tNil))))) (tNil))) (gName 5) (tSeq (tAsg (tOp (rIxL K) (tLst (tCons (tC (.int 0)) (tCons (tC (.int 0)) (tCons (tC (.int 1)) (tCons (tC (.int 1)) (tCons (tC (.int 1)) (tCons (tC (.int 2)) (tCons (tC (.int 2)) (tCons (tC (.int 3)) (tNil)))))))))) (tCall (sp__law_draw K) [] C8.E0 (tCons (tVar 1) (tCons (tC (.int 8)) (tNil))))) (gName 6))
  (tSeq (tAsg (tCall (sp__law_draw K) [] C8.E0 (tCons (tVar 1) (tCons (tC (.int 256)) (tNil)))) (gName 7))
  (tSeqM (tIfS (tAnd (tTest (tOp rEq (tVar 6) (tC (.int 2)))) (tTest (tOp rEq (tCall (sp__law_draw K) [] C8.E0 (tCons (tVar 1) (tCons (tC (.int 2)) (tNil)))) (tC (.int 0))))) (tAsg (tC (.int 0)) (gName 7)) (tNext))
  (tSeq (tAsg (tCall (sp__law_plain K) [] C8.E0 (tCons (tVar 4) (tCons (tVar 2) (tCons (tVar 6) (tCons (tVar 7) (tNil)))))) (gName 8))
  (tIfS (tOr (tTest (tOp (rNeD K) (tCall (sp__law_deed K) [] C8.E0 (tCons (tVar 3) (tCons (tVar 6) (tCons (tVar 7) (tNil))))) (tVar 8))) (tNot (tB (tCall (sp__law_same K) [] C8.E0 (tCons (tVar 3) (tCons (tVar 4) (tCons (tVar 2) (tNil)))))))) (tRet (tC (.bl false))) (tNext)))))))
  (tRet (tC (.bl true)))))))

local macro_rules | `(tactic| row_cond sl_use) => `(tactic| ((with_reducible refine hd_sp__law_deed ?_); (with_reducible refine use__law_deed (by row_cond sl_own) ?k1 ?_); (case k1 => row_cond sl_ar); (rename Own _ _ => hO0; rename Hp => hq0; intro q H1 hH1; clear hO0; (try clear hq0))))
local macro_rules | `(tactic| row_cond sl_use) => `(tactic| ((with_reducible refine hd_sp__law_plain ?_); (with_reducible refine use__law_plain (by row_cond sl_own) ?k1 ?_); (case k1 => row_cond sl_ar); (rename Own _ _ => hO0; rename Hp => hq0; intro q H1 hH1; clear hO0; (try clear hq0))))
local macro_rules | `(tactic| row_cond sl_use) => `(tactic| ((with_reducible refine hd_sp__law_same ?_); (with_reducible refine use__law_same (by row_cond sl_own2) ?k1 ?_); (case k1 => row_cond sl_ar); (rename Own _ _ => hO0; rename Hp => hq0; intro H1 hH1; clear hO0; (try clear hq0))))
local macro_rules | `(tactic| row_cond sl_use) => `(tactic| first
  | (with_reducible refine g_asgU ?_)
  | ((with_reducible refine g_kunl (by row_cond sl_at) ?k1 ?_); (case k1 => exact rfl)))


section
variable {K : PySem.W.Frag} {p lf : Addr} {n : Nat} {ar ad : List Int} {fi : List Slot} {rs : List Addr} {F : List Atom} {H : Hp} {Q : VK} {E : XK} {σ : L2.St}
theorem old5 (hl : rs.length = fi.length) (w : Own H (srA K p n ar fi ad :: pt lf (.lst (rs.map V.ref)) :: bgA sltA rs fi :: F)) (h7 : σ[7]? = some (some ((rs.map V.ref).head?.getD .non))) (k : ∀ H', Own H' (srA K p n ar fi ad :: pt lf (.lst (rs.map V.ref)) :: bgA sltA rs fi :: F) → Q (.bl false) H') : sp_SlotRing_oldest K [.ref p] H (kOp1 (rNeD K) (tVar 7) σ Q) E := by
  cases fi with
  | nil =>
    obtain rfl : rs = [] := List.length_eq_zero_iff.mp hl
    refine use_SlotRing_oldest_n w ⟨_, h7, ?_⟩
    refine g_neD (u := (none : Option Slot)) (w := (none : Option Slot)) .non .non (by decide) ?_
    rw [decide_eq_true rfl]
    exact k _ w
  | cons t ts =>
    cases rs with
    | nil => cases hl
    | cons r rs =>
      refine use_SlotRing_oldest_c w fun q H2 w2 => ⟨_, h7, ?_⟩
      refine g_neD (u := t) (w := t) (is_slt w2) (is_slt (bg_uncons (own_p3 w2))) (by decide) ?_
      rw [decide_eq_true rfl]
      exact k _ w2.tail
end
section
variable {K : PySem.W.Frag} [Tx_Ring K] [Tx_SlotRing K] [XcI K "TickringsError" "RingError" "held"] {vs : List V} {H : Hp} {Q : VK} {E : XK}
theorem pu__law_deed (h : sp__law_deed K vs H Q E) : t__law_deed K (De Q) (start ["_law_ring", "_law_kind", "_law_number", "e"] vs) H := by
  obtain ⟨p, n, ar, fi, ad, kd, x, F, rfl, ⟨⟨h1, h2⟩, h3⟩, hH, k⟩ := h
  show t__law_deed K (De Q) [some (.ref p), some (.int kd), some (.int x), none] H
  unfold t__law_deed
  row_cond sl_go
  refine g_try (exm_exc "TickringsError" "held") fun W hW => ?_
  have bad : ∀ (d : Addr) (H' : Hp) (ar : List Int) (fi : List Slot) (ad : List Int), (∀ q H2, Own H2 (anA q .err :: srA K p n ar fi ad :: F) → Q (.ref q) H2) → Own H' (pt d (.xd [("held", .int 0)]) :: srA K p n ar fi ad :: F) → WE W [some (.ref p), some (.int kd), some (.int x), none] (.ref (He.ga K "RingError")) (some d) H' := by
    intro d H' ar fi ad k hO
    clear hH
    refine hW _ _ _ fun a na => ?_
    simp only [List.set_cons_succ, List.set_cons_zero]
    row_cond sl_go
    exact k _ _ (an_err (by row_cond sl_fin))
  row_cond sl_go
  · rename kd = 0 => hb
    rename Own _ _ => hO
    subst hb
    rw [st5_0] at k
    by_cases hc : (ar.length : Int) + (fi.length : Int) < n
    · rw [if_pos hc] at k hO
      rw [decide_eq_true hc] at hO
      exact k _ _ (an_arm hO)
    · rw [if_neg hc] at k hO
      rw [decide_eq_false hc] at hO
      exact k _ _ (an_arm hO)
  · rename kd = 1 => hb
    subst hb
    refine use_SlotRing_add hH h2 (fun e H' hO => ?_) (fun e d H' hO => ?_)
    · cases ar with
      | nil => exact absurd rfl e
      | cons b bs =>
        clear hH
        rw [st5_1] at k
        row_cond sl_go
        exact k _ _ (an_done (by row_cond sl_fin))
    · subst e
      rw [st5_e (by decide)] at k
      exact bad _ _ _ _ _ k hO
  · rename kd = 2 => hb
    subst hb
    refine use_SlotRing_close hH (fun e => ?_) (fun b bs e H' hO => ?_) (fun e d H' hO => ?_)
    · cases ar with
      | nil => exact absurd rfl e
      | cons b bs =>
        rw [List.length_cons] at h1
        omega
    · subst e
      clear hH
      rw [st5_2] at k
      row_cond sl_go
      exact k _ _ (an_done (by row_cond sl_fin))
    · subst e
      rw [st5_e (by decide)] at k
      exact bad _ _ _ _ _ k hO
  · obtain rfl : kd = 3 := by omega
    refine use_SlotRing_reap hH (fun t ts e r H' hO => ?_) (fun e d H' hO => ?_)
    · subst e
      clear hH
      rw [st5_3c] at k
      row_cond sl_go
      exact k _ _ (an_slot (by row_cond sl_fin))
    · subst e
      rw [st5_3n] at k
      exact bad _ _ _ _ _ k hO
theorem pu__law_plain (h : sp__law_plain K vs H Q E) : t__law_plain K (De Q) (start ["_law_plain_here", "_law_slots", "_law_kind", "_law_number", "_law_armed", "_law_data", "_law_filled"] vs) H := by
  obtain ⟨l, n, s, kd, x, F, rfl, ⟨⟨h1, h2, h3⟩, h4⟩, hH, k⟩ := h
  obtain ⟨la, ld, lf, rs, hO⟩ := pl5_open hH
  obtain ⟨ar, fi, ad⟩ := s
  simp only at h1 h2 hO
  clear hH
  have hl := bg_len (own_p4 hO)
  show t__law_plain K (De Q) [some (.ref l), some (.int (n : Int)), some (.int kd), some (.int x), none, none, none] H
  unfold t__law_plain
  by_cases k0 : kd = 0
  · subst k0
    row_cond sl_go
    · rename _ = (n : Int) => hb
      rename Own _ _ => hO2
      rw [st5_0, if_neg (show ¬ ((ar.length : Int) + (fi.length : Int) < n) by omega)] at k
      exact k _ _ (an_arm (Own.cons_mono hO2 fun _ z => pl5_close z))
    · rename ¬ _ = (n : Int) => hb
      rename Own _ _ => hO2
      rw [st5_0, if_pos (show ((ar.length : Int) + (fi.length : Int) < n) by omega)] at k
      exact k _ _ (an_arm (Own.cons_mono hO2 fun _ z => pl5_close (by row_cond sl_own5)))
  · by_cases k3 : kd = 3
    · subst k3
      cases fi with
      | nil =>
        obtain rfl : rs = [] := List.length_eq_zero_iff.mp hl
        row_cond sl_go
        rename Own _ _ => hO2
        rw [st5_3n] at k
        exact k _ _ (an_err (Own.cons_mono hO2 fun _ z => pl5_close (rs := []) z))
      | cons t ts =>
        cases rs with
        | nil => cases hl
        | cons r rs =>
          rw [st5_3c] at k
          have hO3 := bg_uncons (own_p4 hO)
          clear hO
          row_cond sl_go
          rename Own _ _ => hO2
          exact k _ _ (an_slot (by
            have z : Own _ (pt _ (.tup [.str "slot", .ref r]) :: sltA r t :: pt l (.lst [.ref la, .ref ld, .ref lf]) :: pt la (.lst (ar.map V.int)) :: pt ld (.lst (ad.map V.int)) :: pt lf (.lst (rs.map V.ref)) :: bgA sltA rs ts :: F) := (by row_cond sl_fin)
            exact Own.cons_mono z fun _ z => Own.cons_mono z fun _ z => pl5_close z))
    · cases ar with
      | nil =>
        row_cond sl_go
        rename Own _ _ => hO2
        rw [st5_e ⟨k0, k3⟩] at k
        exact k _ _ (an_err (Own.cons_mono hO2 fun _ z => pl5_close z))
      | cons b bs =>
        by_cases k1 : kd = 1
        · subst k1
          rw [st5_1] at k
          row_cond sl_all
          rename Own _ _ => hO2
          exact k _ _ (an_done (Own.cons_mono hO2 fun _ z => pl5_close (by row_cond sl_own5)))
        · obtain rfl : kd = 2 := by omega
          rw [st5_2] at k
          row_cond sl_all
          rename_i q1 p1 _ hO2
          refine g_clear5 (K := K) (own_p5 hO2) fun H2 hO3 => ?_
          have z1 : Own H2 (pt p1 (.tup [.int b, .ref q1, .int x]) :: pt q1 (.lst (ad.map V.int)) :: bgA sltA rs fi :: pt lf (.lst ((rs ++ [p1]).map V.ref)) :: pt l (.lst [.ref la, .ref ld, .ref lf]) :: pt la (.lst (bs.map V.int)) :: pt ld (.lst (([] : List Int).map V.int)) :: F) := by row_cond sl_fin
          have z2 := bg_snoc (slt_close' z1)
          clear hO2 hO3 z1
          row_cond sl_go
          rename Own _ _ => hO4
          exact k _ _ (an_done (Own.cons_mono hO4 fun _ z => pl5_close (by row_cond sl_own5)))
theorem pu__law_same (h : sp__law_same K vs H Q E) : t__law_same K (De Q) (start ["_law_ring", "_law_plain_here", "_law_slots", "_law_armed", "_law_data", "_law_filled", "_law_opened", "_law_oldest", "_law_can_arm", "_law_slot"] vs) H := by
  obtain ⟨p, l, n, ar, fi, ad, F, rfl, ⟨h1, h2, h3⟩, hH, k⟩ := h
  obtain ⟨la, ld, lf, rs, hO⟩ := pl5_open (own_p1 hH)
  simp only at hO
  have hs := sr_le hH
  clear hH
  have hl := bg_len (own_p4 hO)
  show t__law_same K (De Q) [some (.ref p), some (.ref l), some (.int (n : Int)), none, none, none, none, none, none, none] H
  unfold t__law_same
  have w0 : Own H (srA K p n ar fi ad :: pt l (.lst [.ref la, .ref ld, .ref lf]) :: pt la (.lst (ar.map V.int)) :: pt ld (.lst (ad.map V.int)) :: pt lf (.lst (rs.map V.ref)) :: bgA sltA rs fi :: F) := by row_cond sl_fin
  clear hO
  row_cond sl_go
  refine g_join (fun σ' H' => σ' = [some (.ref p), some (.ref l), some (.int (n : Int)), some (.ref la), some (.ref ld), some (.ref lf), some (vO ar.head?), none, none, none] ∧ Own H' (srA K p n ar fi ad :: pt l (.lst [.ref la, .ref ld, .ref lf]) :: pt la (.lst (ar.map V.int)) :: pt ld (.lst (ad.map V.int)) :: pt lf (.lst (rs.map V.ref)) :: bgA sltA rs fi :: F)) ?_ ?_
  · intro NX hNX
    cases ar with
    | nil =>
      row_cond sl_go
      exact hNX _ _ ⟨rfl, w0⟩
    | cons b bs =>
      row_cond sl_go
      exact hNX _ _ ⟨rfl, w0⟩
  · rintro σ' H1 ⟨rfl, w1⟩
    clear w0
    row_cond sl_go
    refine g_join (fun σ' H' => σ' = [some (.ref p), some (.ref l), some (.int (n : Int)), some (.ref la), some (.ref ld), some (.ref lf), some (vO ar.head?), some ((rs.map V.ref).head?.getD .non), none, none] ∧ Own H' (srA K p n ar fi ad :: pt l (.lst [.ref la, .ref ld, .ref lf]) :: pt la (.lst (ar.map V.int)) :: pt ld (.lst (ad.map V.int)) :: pt lf (.lst (rs.map V.ref)) :: bgA sltA rs fi :: F)) ?_ ?_
    · intro NX hNX
      cases rs with
      | nil =>
        row_cond sl_go
        exact hNX _ _ ⟨rfl, w1⟩
      | cons r rs =>
        row_cond sl_go
        exact hNX _ _ ⟨rfl, w1⟩
    · rintro σ' H2 ⟨rfl, w2⟩
      clear w1
      have el : decide ((ar.length : Int) + (fi.length : Int) < (n : Int)) = decide ((ar.length : Int) + (rs.length : Int) < (n : Int)) := by rw [hl]
      row_cond sl_go
      · rename Own _ _ => hO3
        have hO4 := hO3.tail
        clear hO3
        refine old5 hl (F := pt l (.lst [.ref la, .ref ld, .ref lf]) :: pt la (.lst (ar.map V.int)) :: pt ld (.lst (ad.map V.int)) :: F) (by row_cond sl_fin) rfl fun H4 w4 => ?_
        clear hO4
        row_cond sl_go
        first
          | (refine g_neD (u := fi) (w := fi) (is_slts (by row_cond sl_own2)) (is_slts (by row_cond sl_own2)) (by decide) ?_
             rw [decide_eq_true rfl]
             row_cond sl_go)
          | skip
        rename_i q2 rs2 H5 hO5
        have w5 : Own H5 (pt q2 (.lst (rs2.map V.ref)) :: bgA sltA rs2 fi :: srA K p n ar fi ad :: pt l (.lst [.ref la, .ref ld, .ref lf]) :: pt la (.lst (ar.map V.int)) :: pt ld (.lst (ad.map V.int)) :: pt lf (.lst (rs.map V.ref)) :: bgA sltA rs fi :: F) := by row_cond sl_fin
        clear hO5
        obtain ⟨G, eG⟩ : ∃ G : List Atom, G = srA K p n ar fi ad :: pt l (.lst [.ref la, .ref ld, .ref lf]) :: pt la (.lst (ar.map V.int)) :: pt ld (.lst (ad.map V.int)) :: pt lf (.lst (rs.map V.ref)) :: bgA sltA rs fi :: F := ⟨_, rfl⟩
        rw [← eG] at w5
        have hl2 := bg_len (own_p1 w5)
        refine loop_listM rs2 V.ref (fun i σ' H' => ∃ (v9 : Option V) (fs : List Slot), σ' = [some (.ref p), some (.ref l), some (.int (n : Int)), some (.ref la), some (.ref ld), some (.ref lf), some (vO ar.head?), some ((rs.map V.ref).head?.getD .non), some (.bl (decide ((ar.length : Int) + (fi.length : Int) < (n : Int)))), v9] ∧
          (fs.length = fi.length ∧ ∀ t ∈ fs, t.data.length < 100000 + i) ∧ Own H' (pt q2 (.lst (rs2.map V.ref)) :: bgA sltA rs2 fs :: G)) ⟨_, fi, rfl, ⟨rfl, fun t ht => by have := h3 t ht; omega⟩, w5⟩ (fun i σ' H' ⟨_, _, _, _, w⟩ => SqL.of (own_pt w)) ?_ ?_
        · rintro i x σ' H6 hi ⟨v9, fs, rfl, ⟨f1, f2⟩, w⟩
          clear w5
          have hlt : i < fs.length := by
            have := (List.getElem?_eq_some_iff.mp hi).1
            omega
          obtain ⟨t, ht⟩ : ∃ t, fs[i]? = some t := ⟨_, List.getElem?_eq_getElem hlt⟩
          obtain ⟨r, hr, w6⟩ := bg_focus (own_p1 w) ht
          obtain rfl : r = x := Option.some.inj (hr.symm.trans hi)
          have f3 := f2 t (List.mem_of_getElem? ht)
          have f4 : i < 1000 := by omega
          clear w
          obtain ⟨d, w7⟩ := slt_open w6
          clear w6
          row_cond sl_go
          rename Own _ _ => hO7
          have z := slt_close' hO7.swap
          refine ⟨_, fs.set i ⟨t.buf, t.data ++ [4], t.lost⟩, rfl, ⟨by rw [List.length_set]; exact f1, fun u hu => ?_⟩, own_p1 (bg_refocus hr hlt z)⟩
          rcases List.mem_or_eq_of_mem_set hu with hu | rfl
          · have := f2 u hu
            omega
          · show (t.data ++ [4]).length < _
            rw [List.length_append]
            show t.data.length + 1 < _
            omega
        · rintro σ' H6 ⟨v9, fs, rfl, _, w⟩
          subst eG
          have w6 := w.tail.tail
          clear w w5
          row_cond sl_go
          refine g_join (fun σ' H' => σ' = [some (.ref p), some (.ref l), some (.int (n : Int)), some (.ref la), some (.ref ld), some (.ref lf), some (vO ar.head?), some ((rs.map V.ref).head?.getD .non), some (.bl (decide ((ar.length : Int) + (fi.length : Int) < (n : Int)))), v9] ∧
            Own H' (srA K p n ar fi ad :: pt l (.lst [.ref la, .ref ld, .ref lf]) :: pt la (.lst (ar.map V.int)) :: pt ld (.lst (ad.map V.int)) :: pt lf (.lst (rs.map V.ref)) :: bgA sltA rs fi :: F)) ?_ ?_
          · intro NX hNX
            cases fi with
            | nil =>
              obtain rfl : rs = [] := List.length_eq_zero_iff.mp hl
              simp only [List.map_nil, List.head?_nil, Option.getD_none]
              row_cond sl_go
              exact hNX _ _ ⟨rfl, w6⟩
            | cons t ts =>
              cases rs with
              | nil => cases hl
              | cons r rs =>
                have f3 := h3 t (List.mem_cons_self ..)
                simp only [List.map_cons, List.head?_cons, Option.getD_some]
                row_cond sl_go
                rename Own _ _ => hO7
                obtain ⟨d, w8⟩ := slt_open hO7
                clear hO7
                row_cond sl_go
                exact hNX _ _ ⟨rfl, by row_cond sl_fin⟩
          · rintro σ' H7 ⟨rfl, w7⟩
            clear w6
            row_cond sl_go
            rename_i q3 H8 hO8
            refine comp_list (xs := rs.map V.ref) [some (.ref p), some (.ref l), some (.int (n : Int)), some (.ref la), some (.ref ld), some (.ref lf), some (vO ar.head?), some ((rs.map V.ref).head?.getD .non), some (.bl (decide ((ar.length : Int) + (fi.length : Int) < (n : Int)))), none] (by rw [List.length_map]; omega) rfl
              (fun i acc => pu (acc = ((fi.take i).map Slot.buf).map V.int) :: pt lf (.lst (rs.map V.ref)) :: bgA sltA rs fi :: pt q3 (.lst ((fi.map Slot.buf ++ ar).map V.int)) :: srA K p n ar fi ad :: pt l (.lst [.ref la, .ref ld, .ref lf]) :: pt la (.lst (ar.map V.int)) :: pt ld (.lst (ad.map V.int)) :: F) (own_put rfl (by row_cond sl_fin)) (fun i acc H' w => SqL.of (own_pt (own_p1 w))) ?_ ?_
            · intro i v acc G H' Y N hi _ w hY hN
              clear hO8
              rw [List.getElem?_map] at hi
              have hi2 : i < fi.length := by
                rw [← hl]
                cases e : rs[i]? with
                | none => rw [e] at hi; cases hi
                | some r => exact (List.getElem?_eq_some_iff.mp e).1
              obtain ⟨s, hs⟩ : ∃ s, fi[i]? = some s := ⟨_, List.getElem?_eq_getElem hi2⟩
              obtain ⟨r, hr, w2⟩ := bg_focus (own_p3 w) hs
              rw [hr] at hi
              cases hi
              obtain ⟨d, w3⟩ := slt_open w2
              have h1 := own_pt w3
              clear w2 w3
              row_cond sl_go
              obtain ⟨e, w4⟩ := own_pu (own_p1 w)
              refine hY _ _ (own_p1 (own_put ?_ w4))
              have e2 : fi.take (i + 1) = fi.take i ++ [s] := by rw [List.take_succ, hs] <;> rfl
              rw [e, e2, List.map_append, List.map_append] <;> rfl
            · intro acc D H' _ w
              obtain ⟨rfl, w4⟩ := own_pu (own_p1 w)
              clear hO8 w
              rw [List.length_map, hl, List.take_length] at w4
              row_cond sl_go
              rename_i HZ hO10
              rw [decide_eq_true rfl]
              have z : Own HZ (srA K p n ar fi ad :: pt l (.lst [.ref la, .ref ld, .ref lf]) :: pt la (.lst (ar.map V.int)) :: pt ld (.lst (ad.map V.int)) :: pt lf (.lst (rs.map V.ref)) :: bgA sltA rs fi :: F) := by row_cond sl_fin
              exact k _ (Own.cons_mono z fun _ z => pl5_close z)
theorem pu_law (h : sp_law K vs H Q E) : t_law K (De Q) (start ["_law_script", "_law_state_here", "_law_slots", "_law_ring", "_law_plain_here", "_law_k", "_law_kind", "_law_number", "_law_due"] vs) H := by
  obtain ⟨a, ns, rfl, hl, hS, k⟩ := h
  show t_law K (De Q) [some (.ref a), none, none, none, none, none, none, none, none] H
  have hH := sq_own hS
  unfold t_law
  row_cond sl_go
  rename_i st r0 w0 y1 y2 w1 y3 v y4 y5 q la ld lf l vv HH y6 y7 hO
  obtain ⟨n, en⟩ : ∃ n : Nat, n = (1 + v).toNat := ⟨_, rfl⟩
  have ev : 1 + v = (n : Int) := by omega
  have n1 : n ≤ 32 := by omega
  rw [← en] at hO
  rw [ev]
  have z0 : Own HH (pt l (.lst [.ref la, .ref ld, .ref lf]) :: pt la (.lst (([] : List Int).map V.int)) :: pt ld (.lst (([] : List Int).map V.int)) :: pt lf (.lst (([] : List Addr).map V.ref)) :: bgA sltA [] [] :: stA st :: srA K q n [] [] [] :: []) := by
    have z := bg_nil (S := sltA) hO
    exact (show Own HH (pt l (.lst [.ref la, .ref ld, .ref lf]) :: pt la (.lst []) :: pt ld (.lst []) :: pt lf (.lst []) :: bgA sltA [] [] :: stA st :: srA K q n [] [] [] :: []) by row_cond sl_fin)
  have z1 := pl5_close z0
  clear hO hS z0
  refine loop_range (fun i σ' H' => ∃ (s : S5) (v5 v6 v7 v8 : Option V), σ' = [some (.ref a), some (.ref st), some (.int (n : Int)), some (.ref q), some (.ref l), v5, v6, v7, v8] ∧ I5 n i s ∧ Own H' [stA st, srA K q n s.ar s.fi s.ad, plA5 l s]) ?h0 ?_ ?_
  case h0 => exact ⟨⟨[], [], []⟩, _, _, _, _, rfl, ⟨Nat.zero_le _, Nat.zero_le _, fun t ht => nomatch ht⟩, by row_cond sl_fin⟩
  · rintro i σ' H2 hi ⟨⟨ar, fi, ad⟩, v5, v6, v7, v8, rfl, g, z⟩
    clear z1
    have g1 := g.l
    have g2 := g.d
    simp only at g1 g2 z
    have hi2 : i < 100 := by omega
    row_cond sl_go
    rename_i kd hk x HX x1 x2 hX
    have k4 : 0 ≤ kd ∧ kd ≤ 3 := by omega
    refine g_join (fun σ' H' => ∃ x : Int, σ' = [some (.ref a), some (.ref st), some (.int (n : Int)), some (.ref q), some (.ref l), some (.int (i : Int)), some (.int kd), some (.int x), v8] ∧ Own H' [stA st, srA K q n ar fi ad, plA5 l ⟨ar, fi, ad⟩]) ?_ ?_
    · intro NX hNX
      row_cond sl_go
      all_goals exact hNX _ _ ⟨_, rfl, by row_cond sl_fin⟩
    · rintro σ' H3 ⟨x, rfl, z⟩
      clear hX
      have p1 : (((S5.mk ar fi ad).ar.length + (S5.mk ar fi ad).fi.length ≤ n) ∧ (S5.mk ar fi ad).ad.length < 100000 ∧ n ≤ 1000) ∧ (0 ≤ kd ∧ kd ≤ 3) := ⟨⟨g1, by show ad.length < _; omega, by omega⟩, k4⟩
      have p2 : (ar.length + fi.length ≤ n ∧ ad.length < 100000) ∧ (0 ≤ kd ∧ kd ≤ 3) := ⟨⟨g1, by omega⟩, k4⟩
      row_cond sl_go
      rename_i q2 H4 hX2
      refine g_neD (u := (st5 n kd x ⟨ar, fi, ad⟩).1) (w := (st5 n kd x ⟨ar, fi, ad⟩).1) (is_an hX2) (is_an (own_p2 hX2)) (by decide) ?_
      rw [decide_eq_true rfl]
      have gs : I5 n (i + 1) (st5 n kd x ⟨ar, fi, ad⟩).2 := g.step (x := x) k4
      have z3 : Own H4 [stA st, srA K q n (st5 n kd x ⟨ar, fi, ad⟩).2.ar (st5 n kd x ⟨ar, fi, ad⟩).2.fi (st5 n kd x ⟨ar, fi, ad⟩).2.ad, plA5 l (st5 n kd x ⟨ar, fi, ad⟩).2] := by row_cond sl_fin
      clear hX2 p1 p2
      obtain ⟨s2, es⟩ : ∃ s2, s2 = (st5 n kd x ⟨ar, fi, ad⟩).2 := ⟨_, rfl⟩
      rw [← es] at gs z3
      clear es
      obtain ⟨ar2, fi2, ad2⟩ := s2
      have g3 := gs.l
      have g4 := gs.d
      have g5 := gs.f
      simp only at g3 g4 g5 z3
      have p3 : ad2.length < 100000 ∧ n ≤ 1000 ∧ ∀ t ∈ fi2, t.data.length < 100000 := ⟨by omega, by omega, fun t ht => by have := g5 t ht; omega⟩
      row_cond sl_go
      all_goals exact ⟨⟨ar2, fi2, ad2⟩, _, _, _, _, rfl, gs, by row_cond sl_fin⟩
  · rintro σ' H2 ⟨s, v5, v6, v7, v8, rfl, _, z⟩
    clear z1
    row_cond sl_go
    exact k _
end
end SL
end

section
set_option Elab.async false
set_option linter.all false
set_option maxRecDepth 100000
set_option maxHeartbeats 0
namespace SL
open PySem PySem.Spec PyProof.Rows L2
/-! ## the walk's own rules -/
section
theorem call_min2I {X : Cx} (hc : X.calm = true) : CallR X (.builtin "min") rMin2 := call_min2 hc
theorem call_max2I {X : Cx} (hc : X.calm = true) : CallR X (.builtin "max") rMax2 := call_max2 hc
theorem pe_globI {X : Cx} {x : Str} {i : Int} {pos : Pos} (h : ∃ t, X.mg x = some (Value.int i t)) (hg : Gl X x := by rfl) (hd : (x == ("__debug__" : Str)) = false := by decide +kernel) : PE X (.Name x pos) (tC (.int i)) := by
  obtain ⟨t, e⟩ := h
  exact pe_glob hg e ⟨t, rfl⟩ hd
theorem pe_globS {X : Cx} {x y : Str} {pos : Pos} (h : ∃ t, X.mg x = some (Value.str y t)) (hg : Gl X x := by rfl) (hd : (x == ("__debug__" : Str)) = false := by decide +kernel) : PE X (.Name x pos) (tC (.str y)) := by
  obtain ⟨t, e⟩ := h
  exact pe_glob hg e ⟨t, rfl⟩ hd
end
section
variable {P : Program} {w : World} {K : PySem.W.Frag} {mg : Str → Option Value} {base : Heap} {x qual : Str} {params : Arguments} {body : List Stmt} {scope : Scope} {f : Addr} {fd : FuncData} {N ps : List Str} {k : Nat} {sp : Sp} {t : TS} {kws : List (Str × V)}
theorem fnX (F : FunD K x qual params body scope [] kws f fd) (S : FnScope N ps scope) (len : ∀ vs H Q E, sp vs H Q E → vs.length = ps.length) (pu : ∀ vs H Q E, sp vs H Q E → t (De Q) (start N vs) H)
    (d : ∀ (cdv : Value) (A : Around) (outer : List Env) (s : Shared) (H : Hp) (E : XK), Room k (A.deeper (envOfC qual scope s.heap.objs.size f cdv)) → PSs (cxOf C8.CX0 P w K mg base N qual scope f cdv A outer s H E).nox body t) : FnOk P w K mg base C8.CX0 (k + 1) f fd ps sp :=
  FunD.ok F S len fun cdv A outer s H vs Q E hr h => ⟨t, PSs.nox (d cdv A outer s H E hr), pu vs H Q E h⟩
theorem calX {dvs : List V} {ds : List Value} (F : FnOk P w K mg base C8.CX0 k f fd ps sp) (m : mg x = some (.ref f)) (kp : PySem.W.keepIn K (.ref f) = true) (b : Binds K fd ps ds) (v : Vals dvs ds) : C8.Cal P w K mg base k x sp dvs := ⟨f, fd, ps, ds, F, m, kp, b, v⟩
theorem metX {C : Addr} {m : Str} (c : Cls K C) (me : Meth K C m f) (F : FnOk P w K mg base C8.CX0 k f fd ps sp) (b : Binds K fd ps []) : C8.Met P w K mg base k C m sp [] := ⟨f, fd, ps, [], c, me, F, b, .nil⟩
theorem makX {C : Addr} (M : Mk K C f) (m : mg x = some (.ref C)) (F : FnOk P w K mg base C8.CX0 k f fd ps sp) (b : Binds K fd ps []) : C8.Mak P w K mg base k x C sp [] := ⟨f, fd, ps, [], M, F, m, b, .nil⟩
theorem setF {M : Prop} (h : M) : M := h
end
def top (i : Nat) : Stmt := PySem.Challenge.pw_tickrings_k05_rings_of_slots.main.body.getD i (.Pass ⟨0, 0, 0, 0⟩)
abbrev s_Ring_init : Stmt := inClass (top 4) 0
abbrev s_Ring_held : Stmt := inClass (top 4) 1
abbrev s_Ring_is_full : Stmt := inClass (top 4) 2
abbrev s_Ring_put : Stmt := inClass (top 4) 3
abbrev s_Ring_first : Stmt := inClass (top 4) 4
abbrev s_Ring_take : Stmt := inClass (top 4) 5
abbrev s_Ring_listed : Stmt := inClass (top 4) 6
abbrev s_SlotRing_init : Stmt := inClass (top 6) 0
abbrev s_SlotRing_can_arm : Stmt := inClass (top 6) 1
abbrev s_SlotRing_arm : Stmt := inClass (top 6) 2
abbrev s_SlotRing_open_slot : Stmt := inClass (top 6) 3
abbrev s_SlotRing_open_bytes : Stmt := inClass (top 6) 4
abbrev s_SlotRing_open_count : Stmt := inClass (top 6) 5
abbrev s_SlotRing_add : Stmt := inClass (top 6) 6
abbrev s_SlotRing_close : Stmt := inClass (top 6) 7
abbrev s_SlotRing_oldest : Stmt := inClass (top 6) 8
abbrev s_SlotRing_reap : Stmt := inClass (top 6) 9
abbrev s_SlotRing_filled_slots : Stmt := inClass (top 6) 10
abbrev s_SlotRing_buffers : Stmt := inClass (top 6) 11
abbrev s__law_state : Stmt := top 8
abbrev s__law_draw : Stmt := top 9
abbrev s__law_deed : Stmt := top 10
abbrev s__law_plain : Stmt := top 11
abbrev s__law_same : Stmt := top 12
abbrev s_law : Stmt := top 13
abbrev s_RingError_init : Stmt := inClass (top 2) 0
def d_Ring_init : He.DefD := ⟨("Ring", some "__init__"), "__init__", "Ring.__init__", defArgs s_Ring_init, defBody s_Ring_init, defScope s_Ring_init, [], []⟩
def d_Ring_held : He.DefD := ⟨("Ring", some "held"), "held", "Ring.held", defArgs s_Ring_held, defBody s_Ring_held, defScope s_Ring_held, [], []⟩
def d_Ring_is_full : He.DefD := ⟨("Ring", some "is_full"), "is_full", "Ring.is_full", defArgs s_Ring_is_full, defBody s_Ring_is_full, defScope s_Ring_is_full, [], []⟩
def d_Ring_put : He.DefD := ⟨("Ring", some "put"), "put", "Ring.put", defArgs s_Ring_put, defBody s_Ring_put, defScope s_Ring_put, [], []⟩
def d_Ring_first : He.DefD := ⟨("Ring", some "first"), "first", "Ring.first", defArgs s_Ring_first, defBody s_Ring_first, defScope s_Ring_first, [], []⟩
def d_Ring_take : He.DefD := ⟨("Ring", some "take"), "take", "Ring.take", defArgs s_Ring_take, defBody s_Ring_take, defScope s_Ring_take, [], []⟩
def d_Ring_listed : He.DefD := ⟨("Ring", some "listed"), "listed", "Ring.listed", defArgs s_Ring_listed, defBody s_Ring_listed, defScope s_Ring_listed, [], []⟩
def d_SlotRing_init : He.DefD := ⟨("SlotRing", some "__init__"), "__init__", "SlotRing.__init__", defArgs s_SlotRing_init, defBody s_SlotRing_init, defScope s_SlotRing_init, [], []⟩
def d_SlotRing_can_arm : He.DefD := ⟨("SlotRing", some "can_arm"), "can_arm", "SlotRing.can_arm", defArgs s_SlotRing_can_arm, defBody s_SlotRing_can_arm, defScope s_SlotRing_can_arm, [], []⟩
def d_SlotRing_arm : He.DefD := ⟨("SlotRing", some "arm"), "arm", "SlotRing.arm", defArgs s_SlotRing_arm, defBody s_SlotRing_arm, defScope s_SlotRing_arm, [], []⟩
def d_SlotRing_open_slot : He.DefD := ⟨("SlotRing", some "open_slot"), "open_slot", "SlotRing.open_slot", defArgs s_SlotRing_open_slot, defBody s_SlotRing_open_slot, defScope s_SlotRing_open_slot, [], []⟩
def d_SlotRing_open_bytes : He.DefD := ⟨("SlotRing", some "open_bytes"), "open_bytes", "SlotRing.open_bytes", defArgs s_SlotRing_open_bytes, defBody s_SlotRing_open_bytes, defScope s_SlotRing_open_bytes, [], []⟩
def d_SlotRing_open_count : He.DefD := ⟨("SlotRing", some "open_count"), "open_count", "SlotRing.open_count", defArgs s_SlotRing_open_count, defBody s_SlotRing_open_count, defScope s_SlotRing_open_count, [], []⟩
def d_SlotRing_add : He.DefD := ⟨("SlotRing", some "add"), "add", "SlotRing.add", defArgs s_SlotRing_add, defBody s_SlotRing_add, defScope s_SlotRing_add, [], []⟩
def d_SlotRing_close : He.DefD := ⟨("SlotRing", some "close"), "close", "SlotRing.close", defArgs s_SlotRing_close, defBody s_SlotRing_close, defScope s_SlotRing_close, [], []⟩
def d_SlotRing_oldest : He.DefD := ⟨("SlotRing", some "oldest"), "oldest", "SlotRing.oldest", defArgs s_SlotRing_oldest, defBody s_SlotRing_oldest, defScope s_SlotRing_oldest, [], []⟩
def d_SlotRing_reap : He.DefD := ⟨("SlotRing", some "reap"), "reap", "SlotRing.reap", defArgs s_SlotRing_reap, defBody s_SlotRing_reap, defScope s_SlotRing_reap, [], []⟩
def d_SlotRing_filled_slots : He.DefD := ⟨("SlotRing", some "filled_slots"), "filled_slots", "SlotRing.filled_slots", defArgs s_SlotRing_filled_slots, defBody s_SlotRing_filled_slots, defScope s_SlotRing_filled_slots, [], []⟩
def d_SlotRing_buffers : He.DefD := ⟨("SlotRing", some "buffers"), "buffers", "SlotRing.buffers", defArgs s_SlotRing_buffers, defBody s_SlotRing_buffers, defScope s_SlotRing_buffers, [], []⟩
def d__law_state : He.DefD := ⟨("_law_state", none), "_law_state", "_law_state", defArgs s__law_state, defBody s__law_state, defScope s__law_state, [], []⟩
def d__law_draw : He.DefD := ⟨("_law_draw", none), "_law_draw", "_law_draw", defArgs s__law_draw, defBody s__law_draw, defScope s__law_draw, [], []⟩
def d__law_deed : He.DefD := ⟨("_law_deed", none), "_law_deed", "_law_deed", defArgs s__law_deed, defBody s__law_deed, defScope s__law_deed, [], []⟩
def d__law_plain : He.DefD := ⟨("_law_plain", none), "_law_plain", "_law_plain", defArgs s__law_plain, defBody s__law_plain, defScope s__law_plain, [], []⟩
def d__law_same : He.DefD := ⟨("_law_same", none), "_law_same", "_law_same", defArgs s__law_same, defBody s__law_same, defScope s__law_same, [], []⟩
def d_law : He.DefD := ⟨("law", none), "law", "law", defArgs s_law, defBody s_law, defScope s_law, [], []⟩
def d_RingError_init : He.DefD := ⟨("RingError", some "__init__"), "__init__", "RingError.__init__", defArgs s_RingError_init, defBody s_RingError_init, defScope s_RingError_init, [], []⟩
def fn : List He.DefD := ([d_Ring_init, d_Ring_held, d_Ring_is_full, d_Ring_put, d_Ring_first, d_Ring_take, d_Ring_listed, d_SlotRing_init, d_SlotRing_can_arm, d_SlotRing_arm, d_SlotRing_open_slot, d_SlotRing_open_bytes, d_SlotRing_open_count, d_SlotRing_add, d_SlotRing_close, d_SlotRing_oldest, d_SlotRing_reap, d_SlotRing_filled_slots, d_SlotRing_buffers, d__law_state, d__law_draw, d__law_deed, d__law_plain, d__law_same] : List He.DefD) ++ ([d_law, d_RingError_init] : List He.DefD)
def fa : List He.Fa := ([.glo "_law_state", .glo "_law_draw", .glo "_law_deed", .glo "_law_plain", .glo "_law_same", .glo "law", .glo "Ring", .cls "Ring", .mkr "Ring", .meth "Ring" "__init__", .meth "Ring" "held", .meth "Ring" "is_full", .meth "Ring" "put", .meth "Ring" "first", .meth "Ring" "take", .meth "Ring" "listed", .noat "Ring" "cells", .noat "Ring" "written", .noat "Ring" "taken", .glo "SlotRing", .cls "SlotRing", .mkr "SlotRing", .meth "SlotRing" "__init__", .meth "SlotRing" "can_arm"] : List He.Fa) ++ ([.meth "SlotRing" "arm", .meth "SlotRing" "open_slot", .meth "SlotRing" "open_bytes", .meth "SlotRing" "open_count", .meth "SlotRing" "add", .meth "SlotRing" "close", .meth "SlotRing" "oldest", .meth "SlotRing" "reap", .meth "SlotRing" "filled_slots", .meth "SlotRing" "buffers", .noat "SlotRing" "slots", .noat "SlotRing" "armed", .noat "SlotRing" "filled", .noat "SlotRing" "added", .glo "RingError", .meth "RingError" "__init__", .glo "TickringsError", .free "range", .free "len", .free "list", .free "int", .free "abs", .free "isinstance", .free "bool"] : List He.Fa)
abbrev R : PySem.W.OpenRow := PySem.W.OpenLaw.row PySem.Challenge.rw_tickrings_k05_rings_of_slots
def xcs : List (PySem.Str × PySem.Str × PySem.Str) := [("TickringsError", "RingError", "held")]
def dvals (o : Obj) : List Addr := match o.data with
  | .dict es _ => es.toList.flatMap fun e => He.refV e.val
  | _ => []
def part1 (g : Addr → Option Obj) (a : Addr) : List Addr := match g a with
  | some o => (match o.data with
    | .cls cd => cd.ns :: (match g cd.ns with
      | some d => dvals d
      | none => [])
    | .func fd => He.refV fd.code ++ (He.refV fd.defaults ++ He.refV fd.kwdefaults)
    | _ => [])
  | none => []
def part2 (g : Addr → Option Obj) (a : Addr) : List Addr := match g a with
  | some o => (match o.data with
    | .func fd => He.refV fd.code ++ (He.refV fd.defaults ++ He.refV fd.kwdefaults)
    | _ => [])
  | none => []
def needs (g : Addr → Option Obj) : List Addr := match g mainGlobals with
  | some o => mainGlobals :: (dvals o ++ (dvals o).flatMap fun a => part1 g a ++ (match g a with
    | some c => (match c.data with
      | .cls _ => (part1 g a).flatMap (part2 g)
      | _ => [])
    | none => []))
  | none => []
def obsN (fa : List He.Fa) (fn : List He.DefD) (g : Addr → Option Obj) : He.AlD := He.obsD fa fn (He.frG g (needs g))
def obsX (fa : List He.Fa) (fn : List He.DefD) (g : Addr → Option Obj) : He.AlD × Bool := (He.obsD fa fn (He.frG g (PySem.cStatics :: needs g)), chX xcs (He.frG g (PySem.cStatics :: needs g)))
def hookX (fa : List He.Fa) (fn : List He.DefD) : PySem.W.Hook where
  α := He.AlD × Bool
  obs := fun s => obsX fa fn s.heap.get?
  val := fun _ => (He.valD fn, true)
  says := fun _ h => ∃ K : PySem.W.Frag, K.In h ∧ SaysX xcs fa fn K
  of := fun _ _ e => ⟨_, He.frG_in, ⟨congrArg Prod.fst e, congrArg Prod.snd e⟩⟩
  keeps := fun _ _ _ ⟨K, hK, c⟩ k => ⟨K, PySem.W.Frag.In.keeps hK k, c⟩
theorem obsX_eq {fa : List He.Fa} {fn : List He.DefD} {g : Addr → Option Obj} {s : Shared} (h : ∀ a, g a = s.heap.get? a) : obsX fa fn g = (hookX fa fn).obs s := by
  have e : g = s.heap.get? := funext h
  rw [e] <;> rfl
abbrev hk : PySem.W.Hook := hookX fa fn
def obS (s : PySem.W.SharedT) : He.AlD × Bool := obsX fa fn (HandSHeadRun.getT s)
theorem obS_eq (s : PySem.W.SharedT) : obS s = hk.obs s.abs := obsX_eq (HandSHeadRun.getT_eq s)
def loose : List PySem.Str := (["TickringsError", "RingError", "Ring", "SlotRing", "_law_state", "_law_draw", "_law_deed", "_law_plain", "_law_same"] : List PySem.Str)
theorem run (w : World) : HandSHeadRun.RunEq R (PySem.W.view R.prog [13]) hk obS 30000 loose w := by
  intro os
  kernel_rfl
theorem sc_RingError_init : FnScope ["self", "held"] ["self", "held"] (defScope s_RingError_init) := C8.fnScope_by (by decide +kernel)
abbrev n__law_state : List Str := ["_law_script", "_law_seed", "_law_cell"]
theorem sc__law_state : FnScope n__law_state ["_law_script"] (defScope s__law_state) := C8.fnScope_by (by decide +kernel)
theorem ln__law_state {K : PySem.W.Frag} : ∀ vs H Q E, sp__law_state K vs H Q E → vs.length = (["_law_script"] : List Str).length := by
  intro vs H Q E h
  unfold sp__law_state at h
  repeat' (first | (obtain ⟨rfl, _⟩ := h; exact rfl) | (obtain ⟨_, h⟩ := h))
abbrev n__law_draw : List Str := ["_law_state_here", "_law_many", "_law_cells", "_law_value", "_law_mixed"]
theorem sc__law_draw : FnScope n__law_draw ["_law_state_here", "_law_many"] (defScope s__law_draw) := C8.fnScope_by (by decide +kernel)
theorem ln__law_draw {K : PySem.W.Frag} : ∀ vs H Q E, sp__law_draw K vs H Q E → vs.length = (["_law_state_here", "_law_many"] : List Str).length := by
  intro vs H Q E h
  unfold sp__law_draw at h
  repeat' (first | (obtain ⟨rfl, _⟩ := h; exact rfl) | (obtain ⟨_, h⟩ := h))
abbrev n_Ring_init : List Str := ["self", "cells"]
theorem sc_Ring_init : FnScope n_Ring_init ["self", "cells"] (defScope s_Ring_init) := C8.fnScope_by (by decide +kernel)
theorem ln_Ring_init {K : PySem.W.Frag} : ∀ vs H Q E, sp_Ring_init K vs H Q E → vs.length = (["self", "cells"] : List Str).length := by
  intro vs H Q E h
  unfold sp_Ring_init at h
  repeat' (first | (obtain ⟨rfl, _⟩ := h; exact rfl) | (obtain ⟨_, h⟩ := h))
abbrev n_SlotRing_init : List Str := ["self", "slots"]
theorem sc_SlotRing_init : FnScope n_SlotRing_init ["self", "slots"] (defScope s_SlotRing_init) := C8.fnScope_by (by decide +kernel)
theorem ln_SlotRing_init {K : PySem.W.Frag} : ∀ vs H Q E, sp_SlotRing_init K vs H Q E → vs.length = (["self", "slots"] : List Str).length := by
  intro vs H Q E h
  unfold sp_SlotRing_init at h
  repeat' (first | (obtain ⟨rfl, _⟩ := h; exact rfl) | (obtain ⟨_, h⟩ := h))
abbrev n__law_plain : List Str := ["_law_plain_here", "_law_slots", "_law_kind", "_law_number", "_law_armed", "_law_data", "_law_filled"]
theorem sc__law_plain : FnScope n__law_plain ["_law_plain_here", "_law_slots", "_law_kind", "_law_number"] (defScope s__law_plain) := C8.fnScope_by (by decide +kernel)
theorem ln__law_plain {K : PySem.W.Frag} : ∀ vs H Q E, sp__law_plain K vs H Q E → vs.length = (["_law_plain_here", "_law_slots", "_law_kind", "_law_number"] : List Str).length := by
  intro vs H Q E h
  unfold sp__law_plain at h
  repeat' (first | (obtain ⟨rfl, _⟩ := h; exact rfl) | (obtain ⟨_, h⟩ := h))
abbrev n_Ring_held : List Str := ["self", "many"]
theorem sc_Ring_held : FnScope n_Ring_held ["self"] (defScope s_Ring_held) := C8.fnScope_by (by decide +kernel)
theorem ln_Ring_held {K : PySem.W.Frag} : ∀ vs H Q E, sp_Ring_held K vs H Q E → vs.length = (["self"] : List Str).length := by
  intro vs H Q E h
  unfold sp_Ring_held at h
  repeat' (first | (obtain ⟨rfl, _⟩ := h; exact rfl) | (obtain ⟨_, h⟩ := h))
abbrev n_SlotRing_can_arm : List Str := ["self"]
theorem sc_SlotRing_can_arm : FnScope n_SlotRing_can_arm ["self"] (defScope s_SlotRing_can_arm) := C8.fnScope_by (by decide +kernel)
theorem ln_SlotRing_can_arm {K : PySem.W.Frag} : ∀ vs H Q E, sp_SlotRing_can_arm K vs H Q E → vs.length = (["self"] : List Str).length := by
  intro vs H Q E h
  unfold sp_SlotRing_can_arm at h
  repeat' (first | (obtain ⟨rfl, _⟩ := h; exact rfl) | (obtain ⟨_, h⟩ := h))
abbrev n_Ring_is_full : List Str := ["self"]
theorem sc_Ring_is_full : FnScope n_Ring_is_full ["self"] (defScope s_Ring_is_full) := C8.fnScope_by (by decide +kernel)
theorem ln_Ring_is_full {K : PySem.W.Frag} : ∀ vs H Q E, sp_Ring_is_full K vs H Q E → vs.length = (["self"] : List Str).length := by
  intro vs H Q E h
  unfold sp_Ring_is_full at h
  repeat' (first | (obtain ⟨rfl, _⟩ := h; exact rfl) | (obtain ⟨_, h⟩ := h))
abbrev n_Ring_put : List Str := ["self", "value", "many"]
theorem sc_Ring_put : FnScope n_Ring_put ["self", "value"] (defScope s_Ring_put) := C8.fnScope_by (by decide +kernel)
theorem ln_Ring_put {K : PySem.W.Frag} : ∀ vs H Q E, sp_Ring_put K vs H Q E → vs.length = (["self", "value"] : List Str).length := by
  intro vs H Q E h
  unfold sp_Ring_put at h
  repeat' (first | (obtain ⟨rfl, _⟩ := h; exact rfl) | (obtain ⟨_, h⟩ := h))
abbrev n_SlotRing_arm : List Str := ["self", "buffer"]
theorem sc_SlotRing_arm : FnScope n_SlotRing_arm ["self", "buffer"] (defScope s_SlotRing_arm) := C8.fnScope_by (by decide +kernel)
theorem ln_SlotRing_arm {K : PySem.W.Frag} : ∀ vs H Q E, sp_SlotRing_arm K vs H Q E → vs.length = (["self", "buffer"] : List Str).length := by
  intro vs H Q E h
  unfold sp_SlotRing_arm at h
  repeat' (first | (obtain ⟨rfl, _⟩ := h; exact rfl) | (obtain ⟨_, h⟩ := h))
abbrev n_SlotRing_add : List Str := ["self", "byte"]
theorem sc_SlotRing_add : FnScope n_SlotRing_add ["self", "byte"] (defScope s_SlotRing_add) := C8.fnScope_by (by decide +kernel)
theorem ln_SlotRing_add {K : PySem.W.Frag} : ∀ vs H Q E, sp_SlotRing_add K vs H Q E → vs.length = (["self", "byte"] : List Str).length := by
  intro vs H Q E h
  unfold sp_SlotRing_add at h
  repeat' (first | (obtain ⟨rfl, _⟩ := h; exact rfl) | (obtain ⟨_, h⟩ := h))
abbrev n_Ring_first : List Str := ["self"]
theorem sc_Ring_first : FnScope n_Ring_first ["self"] (defScope s_Ring_first) := C8.fnScope_by (by decide +kernel)
theorem ln_Ring_first {K : PySem.W.Frag} : ∀ vs H Q E, sp_Ring_first K vs H Q E → vs.length = (["self"] : List Str).length := by
  intro vs H Q E h
  unfold sp_Ring_first at h
  repeat' (first | (obtain ⟨rfl, _⟩ := h; exact rfl) | (obtain ⟨_, h⟩ := h))
abbrev n_Ring_take : List Str := ["self", "value", "many"]
theorem sc_Ring_take : FnScope n_Ring_take ["self"] (defScope s_Ring_take) := C8.fnScope_by (by decide +kernel)
theorem ln_Ring_take {K : PySem.W.Frag} : ∀ vs H Q E, sp_Ring_take K vs H Q E → vs.length = (["self"] : List Str).length := by
  intro vs H Q E h
  unfold sp_Ring_take at h
  repeat' (first | (obtain ⟨rfl, _⟩ := h; exact rfl) | (obtain ⟨_, h⟩ := h))
abbrev n_SlotRing_close : List Str := ["self", "lost", "buffer"]
theorem sc_SlotRing_close : FnScope n_SlotRing_close ["self", "lost"] (defScope s_SlotRing_close) := C8.fnScope_by (by decide +kernel)
theorem ln_SlotRing_close {K : PySem.W.Frag} : ∀ vs H Q E, sp_SlotRing_close K vs H Q E → vs.length = (["self", "lost"] : List Str).length := by
  intro vs H Q E h
  unfold sp_SlotRing_close at h
  repeat' (first | (obtain ⟨rfl, _⟩ := h; exact rfl) | (obtain ⟨_, h⟩ := h))
abbrev n_SlotRing_reap : List Str := ["self"]
theorem sc_SlotRing_reap : FnScope n_SlotRing_reap ["self"] (defScope s_SlotRing_reap) := C8.fnScope_by (by decide +kernel)
theorem ln_SlotRing_reap {K : PySem.W.Frag} : ∀ vs H Q E, sp_SlotRing_reap K vs H Q E → vs.length = (["self"] : List Str).length := by
  intro vs H Q E h
  unfold sp_SlotRing_reap at h
  repeat' (first | (obtain ⟨rfl, _⟩ := h; exact rfl) | (obtain ⟨_, h⟩ := h))
abbrev n__law_deed : List Str := ["_law_ring", "_law_kind", "_law_number", "e"]
theorem sc__law_deed : FnScope n__law_deed ["_law_ring", "_law_kind", "_law_number"] (defScope s__law_deed) := C8.fnScope_by (by decide +kernel)
theorem ln__law_deed {K : PySem.W.Frag} : ∀ vs H Q E, sp__law_deed K vs H Q E → vs.length = (["_law_ring", "_law_kind", "_law_number"] : List Str).length := by
  intro vs H Q E h
  unfold sp__law_deed at h
  repeat' (first | (obtain ⟨rfl, _⟩ := h; exact rfl) | (obtain ⟨_, h⟩ := h))
abbrev n_SlotRing_open_slot : List Str := ["self"]
theorem sc_SlotRing_open_slot : FnScope n_SlotRing_open_slot ["self"] (defScope s_SlotRing_open_slot) := C8.fnScope_by (by decide +kernel)
theorem ln_SlotRing_open_slot {K : PySem.W.Frag} : ∀ vs H Q E, sp_SlotRing_open_slot K vs H Q E → vs.length = (["self"] : List Str).length := by
  intro vs H Q E h
  unfold sp_SlotRing_open_slot at h
  repeat' (first | (obtain ⟨rfl, _⟩ := h; exact rfl) | (obtain ⟨_, h⟩ := h))
abbrev n_SlotRing_open_bytes : List Str := ["self"]
theorem sc_SlotRing_open_bytes : FnScope n_SlotRing_open_bytes ["self"] (defScope s_SlotRing_open_bytes) := C8.fnScope_by (by decide +kernel)
theorem ln_SlotRing_open_bytes {K : PySem.W.Frag} : ∀ vs H Q E, sp_SlotRing_open_bytes K vs H Q E → vs.length = (["self"] : List Str).length := by
  intro vs H Q E h
  unfold sp_SlotRing_open_bytes at h
  repeat' (first | (obtain ⟨rfl, _⟩ := h; exact rfl) | (obtain ⟨_, h⟩ := h))
abbrev n_SlotRing_open_count : List Str := ["self"]
theorem sc_SlotRing_open_count : FnScope n_SlotRing_open_count ["self"] (defScope s_SlotRing_open_count) := C8.fnScope_by (by decide +kernel)
theorem ln_SlotRing_open_count {K : PySem.W.Frag} : ∀ vs H Q E, sp_SlotRing_open_count K vs H Q E → vs.length = (["self"] : List Str).length := by
  intro vs H Q E h
  unfold sp_SlotRing_open_count at h
  repeat' (first | (obtain ⟨rfl, _⟩ := h; exact rfl) | (obtain ⟨_, h⟩ := h))
abbrev n_SlotRing_oldest : List Str := ["self", "buffer", "data", "lost"]
theorem sc_SlotRing_oldest : FnScope n_SlotRing_oldest ["self"] (defScope s_SlotRing_oldest) := C8.fnScope_by (by decide +kernel)
theorem ln_SlotRing_oldest {K : PySem.W.Frag} : ∀ vs H Q E, sp_SlotRing_oldest K vs H Q E → vs.length = (["self"] : List Str).length := by
  intro vs H Q E h
  unfold sp_SlotRing_oldest at h
  repeat' (first | (obtain ⟨rfl, _⟩ := h; exact rfl) | (obtain ⟨_, h⟩ := h))
abbrev n_Ring_listed : List Str := ["self", "many", "k"]
theorem sc_Ring_listed : FnScope n_Ring_listed ["self"] (defScope s_Ring_listed) := C8.fnScope_by (by decide +kernel)
theorem ln_Ring_listed {K : PySem.W.Frag} : ∀ vs H Q E, sp_Ring_listed K vs H Q E → vs.length = (["self"] : List Str).length := by
  intro vs H Q E h
  unfold sp_Ring_listed at h
  repeat' (first | (obtain ⟨rfl, _⟩ := h; exact rfl) | (obtain ⟨_, h⟩ := h))
abbrev n_SlotRing_filled_slots : List Str := ["self", "buffer", "data", "lost"]
theorem sc_SlotRing_filled_slots : FnScope n_SlotRing_filled_slots ["self"] (defScope s_SlotRing_filled_slots) := C8.fnScope_by (by decide +kernel)
theorem ln_SlotRing_filled_slots {K : PySem.W.Frag} : ∀ vs H Q E, sp_SlotRing_filled_slots K vs H Q E → vs.length = (["self"] : List Str).length := by
  intro vs H Q E h
  unfold sp_SlotRing_filled_slots at h
  repeat' (first | (obtain ⟨rfl, _⟩ := h; exact rfl) | (obtain ⟨_, h⟩ := h))
abbrev n_SlotRing_buffers : List Str := ["self", "slot"]
theorem sc_SlotRing_buffers : FnScope n_SlotRing_buffers ["self"] (defScope s_SlotRing_buffers) := C8.fnScope_by (by decide +kernel)
theorem ln_SlotRing_buffers {K : PySem.W.Frag} : ∀ vs H Q E, sp_SlotRing_buffers K vs H Q E → vs.length = (["self"] : List Str).length := by
  intro vs H Q E h
  unfold sp_SlotRing_buffers at h
  repeat' (first | (obtain ⟨rfl, _⟩ := h; exact rfl) | (obtain ⟨_, h⟩ := h))
abbrev n__law_same : List Str := ["_law_ring", "_law_plain_here", "_law_slots", "_law_armed", "_law_data", "_law_filled", "_law_opened", "_law_oldest", "_law_can_arm", "_law_slot"]
theorem sc__law_same : FnScope n__law_same ["_law_ring", "_law_plain_here", "_law_slots"] (defScope s__law_same) := C8.fnScope_by (by decide +kernel)
theorem ln__law_same {K : PySem.W.Frag} : ∀ vs H Q E, sp__law_same K vs H Q E → vs.length = (["_law_ring", "_law_plain_here", "_law_slots"] : List Str).length := by
  intro vs H Q E h
  unfold sp__law_same at h
  repeat' (first | (obtain ⟨rfl, _⟩ := h; exact rfl) | (obtain ⟨_, h⟩ := h))
abbrev n_law : List Str := ["_law_script", "_law_state_here", "_law_slots", "_law_ring", "_law_plain_here", "_law_k", "_law_kind", "_law_number", "_law_due"]
theorem sc_law : FnScope n_law ["_law_script"] (defScope s_law) := C8.fnScope_by (by decide +kernel)
theorem ln_law {K : PySem.W.Frag} : ∀ vs H Q E, sp_law K vs H Q E → vs.length = (["_law_script"] : List Str).length := by
  intro vs H Q E h
  unfold sp_law at h
  repeat' (first | (obtain ⟨rfl, _⟩ := h; exact rfl) | (obtain ⟨_, h⟩ := h))
section
variable {P : Program} {w : World} {K : PySem.W.Frag} {h base : Heap} {mg : Str → Option Value} (c : SaysX xcs fa fn K) (X0 : K.In h) (G : h.Ns mainGlobals mg)
include c X0 G
theorem b_int : mg "int" = none := He.free_ok X0 G (c.fact 44 rfl)
theorem b_abs : mg "abs" = none := He.free_ok X0 G (c.fact 45 rfl)
theorem b_len : mg "len" = none := He.free_ok X0 G (c.fact 42 rfl)
theorem b_list : mg "list" = none := He.free_ok X0 G (c.fact 43 rfl)
theorem b_range : mg "range" = none := He.free_ok X0 G (c.fact 41 rfl)
theorem b_isinstance : mg "isinstance" = none := He.free_ok X0 G (c.fact 46 rfl)
theorem b_bool : mg "bool" = none := He.free_ok X0 G (c.fact 47 rfl)
theorem g_RingError : mg "RingError" = some (.ref (He.ga K "RingError")) := He.glo_ok X0 G (c.fact 38 rfl)
theorem g_TickringsError : mg "TickringsError" = some (.ref (He.ga K "TickringsError")) := He.glo_ok X0 G (c.fact 40 rfl)
omit X0 G
theorem xf_RingError : XcF K "TickringsError" "RingError" "held" := c.xc 0 (q := ("TickringsError", "RingError", "held")) rfl
theorem tx_Ring : Tx_Ring K where
  cl := He.cls_ok (c.fact 7 rfl)
  n_cells := He.noat_ok (c.fact 16 rfl)
  n_written := He.noat_ok (c.fact 17 rfl)
  n_taken := He.noat_ok (c.fact 18 rfl)
theorem tx_SlotRing : Tx_SlotRing K where
  cl := He.cls_ok (c.fact 20 rfl)
  n_slots := He.noat_ok (c.fact 34 rfl)
  n_armed := He.noat_ok (c.fact 35 rfl)
  n_filled := He.noat_ok (c.fact 36 rfl)
  n_added := He.noat_ok (c.fact 37 rfl)
end
section
variable {P : Program} {w : World} {K : PySem.W.Frag} {h base : Heap} {mg : Str → Option Value} (c : SaysX xcs fa fn K) (X0 : K.In h) (G : h.Ns mainGlobals mg)
include c X0 G
theorem x_RingError : Xmk P w K mg base 1 "TickringsError" "RingError" "held" := by
  obtain ⟨fd, F⟩ := c.def_ 25 (d := d_RingError_init) rfl
  have m := He.meth_ok (c.fact 39 (f := .meth "RingError" "__init__") rfl)
  have T := xf_RingError c
  refine ⟨T, _, fd, ["self", "held"], m.at_, is_fn m.fn, fnX (t := tXi K "held" "ring is full or empty") F sc_RingError_init ln_Xi (fun vs H Q E h => pu_Xi h) (fun cdv A outer s H E hr => ?_), FunD.bindsN F (ps := ["self", "held"]) fun _ _ _ _ _ _ us hl => match us, hl with | [_, _], _ => rfl, g_RingError c X0 G⟩
  exact pss_cons (ps_expr (pe_baseI rfl (g_TickringsError c X0 G) T.tg T.tr T.tf (pa_cons (pv 0) (pa_cons pe_str pa_nil)))) (pss_one (ps_ost (pv 0) (pv 1)))
theorem ok__law_state : C8.Cal P w K mg base 1 "_law_state" (sp__law_state K) [] := by
  obtain ⟨fd, F⟩ := c.def_ 19 (d := d__law_state) rfl
  haveI := tx_Ring c
  haveI := tx_SlotRing c
  haveI : XcI K "TickringsError" "RingError" "held" := ⟨xf_RingError c⟩
  refine calX (fnX (t := t__law_state K) F sc__law_state ln__law_state (fun vs H Q E h => pu__law_state h) (fun cdv A outer s H E hr => ?_)) (He.glo_ok X0 G (c.fact 0 rfl)) F.kp (FunD.bindsN F (ps := ["_law_script"]) fun _ _ _ _ _ _ us hl => match us, hl with | [_], _ => rfl) .nil
  exact pss_cons (ps_set (i := 1) sc__law_state.nd rfl (by first | exact Or.inl rfl | exact Or.inr rfl) (pe_int))
      (pss_cons (ps_for PassesOwn.never rfl (pi_list (pv 0)) (pg_name (i := 2) sc__law_state.nd rfl (by first | exact Or.inl rfl | exact Or.inr rfl)) (pss_one (ps_set (i := 1) sc__law_state.nd rfl (by first | exact Or.inl rfl | exact Or.inr rfl) (pe_op op_modI (pe_callTy call_intI (by rfl) (b_int c X0 G) (by decide +kernel) (pa_cons (pe_op op_addI (pe_op op_mulI (pv 1) (pe_int)) (pv 2)) (pa_nil))) (pe_int)))))
      (pss_one (ps_ret (pe_lst (pa_cons (pe_lc (own := [("_law_cell", 2)]) (g := gName 2) (tt := tYes) (te := tCB rAbs (tCons (tVar 2) (tNil))) rfl sc__law_state.nd (pi_list (pv 0)) (blkOk_by (own := [("_law_cell", 2)]) (N := n__law_state) (sc := defScope s__law_state) (by decide +kernel)) (fun _ _ _ _ _ => pg_name (i := 2) sc__law_state.nd rfl (by first | exact Or.inl rfl | exact Or.inr rfl)) (fun _ _ _ _ _ => pts_nil) (fun _ _ _ _ _ => pe_callB call_absI (by rfl) (b_abs c X0 G) (by decide +kernel) (pa_cons (pv 2) (pa_nil)))) (pa_cons (pe_op op_addI (pv 1) (pe_int)) (pa_nil)))))))
theorem ok__law_draw : C8.Cal P w K mg base 1 "_law_draw" (sp__law_draw K) [] := by
  obtain ⟨fd, F⟩ := c.def_ 20 (d := d__law_draw) rfl
  haveI := tx_Ring c
  haveI := tx_SlotRing c
  haveI : XcI K "TickringsError" "RingError" "held" := ⟨xf_RingError c⟩
  refine calX (fnX (t := t__law_draw K) F sc__law_draw ln__law_draw (fun vs H Q E h => pu__law_draw h) (fun cdv A outer s H E hr => ?_)) (He.glo_ok X0 G (c.fact 1 rfl)) F.kp (FunD.bindsN F (ps := ["_law_state_here", "_law_many"]) fun _ _ _ _ _ _ us hl => match us, hl with | [_, _], _ => rfl) .nil
  exact pss_cons (ps_set (i := 2) sc__law_draw.nd rfl (by first | exact Or.inl rfl | exact Or.inr rfl) (pe_ix ix_list (pv 0) (pe_int) (fun _ _ => rfl)))
      (pss_cons (ps_while PassesOwn.never (PW.pt (pw_and (pt_cmpR op_gtI (pe_callB call_lenI (by rfl) (b_len c X0 G) (by decide +kernel) (pa_cons (pv 2) (pa_nil))) (pe_int) (nomark _)) (pw_and1 (pt_cmpR op_eq (pe_ix ix_list (pv 2) (pe_int) (fun _ _ => rfl)) (pe_int) (nomark _))))) (pss_one (ps_expr (pe_bm PySem.F.plainAttrs_list PySem.F.slot_list_pop PySem.F.type_list_pop mt_popAt (pv 2) (pa_cons (pe_int) (pa_nil))))))
      (pss_cons (ps_if (pt_cmpR op_gtI (pe_callB call_lenI (by rfl) (b_len c X0 G) (by decide +kernel) (pa_cons (pv 2) (pa_nil))) (pe_int) (nomark _)) (pss_cons (ps_set (i := 3) sc__law_draw.nd rfl (by first | exact Or.inl rfl | exact Or.inr rfl) (pe_ix ix_list (pv 2) (pe_int) (fun _ _ => rfl)))
      (pss_cons (ps_asg (pe_op op_divI (pv 3) (pv 1)) (pg_sub (pv 2) (pe_int) set_list))
      (pss_one (ps_ret (pe_op op_modI (pe_callTy call_intI (by rfl) (b_int c X0 G) (by decide +kernel) (pa_cons (pv 3) (pa_nil))) (pv 1)))))) (pss_nil))
      (pss_cons (ps_set (i := 4) sc__law_draw.nd rfl (by first | exact Or.inl rfl | exact Or.inr rfl) (pe_op op_modI (pe_callTy call_intI (by rfl) (b_int c X0 G) (by decide +kernel) (pa_cons (pe_op op_addI (pe_op op_mulI (pe_ix ix_list (pv 0) (pe_int) (fun _ _ => rfl)) (pe_int)) (pe_int)) (pa_nil))) (pe_int)))
      (pss_cons (ps_asg (pv 4) (pg_sub (pv 0) (pe_int) set_list))
      (pss_one (ps_ret (pe_op op_modI (pe_callTy call_intI (by rfl) (b_int c X0 G) (by decide +kernel) (pa_cons (pe_op op_divI (pv 4) (pe_int)) (pa_nil))) (pv 1))))))))
theorem ok_Ring_init : C8.Mak P w K mg base 1 "Ring" (He.ga K "Ring") (sp_Ring_init K) [] := by
  obtain ⟨fd, F⟩ := c.def_ 0 (d := d_Ring_init) rfl
  haveI := tx_Ring c
  haveI := tx_SlotRing c
  haveI : XcI K "TickringsError" "RingError" "held" := ⟨xf_RingError c⟩
  refine makX (He.mkr_ok (c.fact 8 rfl)) (He.glo_ok X0 G (c.fact 6 rfl)) (fnX (t := t_Ring_init K) F sc_Ring_init ln_Ring_init (fun vs H Q E h => pu_Ring_init h) (fun cdv A outer s H E hr => ?_)) (FunD.bindsN F (ps := ["self", "cells"]) fun _ _ _ _ _ _ us hl => match us, hl with | [_, _], _ => rfl)
  exact pss_cons (ps_fld (pv 0) (pe_op op_rep (pe_lst (pa_cons (pe_non) (pa_nil))) (pv 1)) rfl)
      (pss_cons (ps_fld (pv 0) (pe_int) rfl)
      (pss_one (ps_fld (pv 0) (pe_int) rfl)))
theorem ok_SlotRing_init : C8.Mak P w K mg base 3 "SlotRing" (He.ga K "SlotRing") (sp_SlotRing_init K) [] := by
  obtain ⟨fd, F⟩ := c.def_ 7 (d := d_SlotRing_init) rfl
  haveI := tx_Ring c
  haveI := tx_SlotRing c
  haveI : XcI K "TickringsError" "RingError" "held" := ⟨xf_RingError c⟩
  refine makX (He.mkr_ok (c.fact 21 rfl)) (He.glo_ok X0 G (c.fact 19 rfl)) (fnX (t := t_SlotRing_init K) F sc_SlotRing_init ln_SlotRing_init (fun vs H Q E h => pu_SlotRing_init h) (fun cdv A outer s H E hr => ?_)) (FunD.bindsN F (ps := ["self", "slots"]) fun _ _ _ _ _ _ us hl => match us, hl with | [_, _], _ => rfl)
  exact pss_cons (ps_fld (pv 0) (pv 1) rfl)
      (pss_cons (ps_fld (pv 0) (C8.pe_mk (ok_Ring_init c X0 G) hr (by decide) rfl (pa_cons (pv 1) (pa_nil))) rfl)
      (pss_cons (ps_fld (pv 0) (C8.pe_mk (ok_Ring_init c X0 G) hr (by decide) rfl (pa_cons (pv 1) (pa_nil))) rfl)
      (pss_one (ps_fld (pv 0) (pe_lst (pa_nil)) rfl))))
theorem ok__law_plain : C8.Cal P w K mg base 1 "_law_plain" (sp__law_plain K) [] := by
  obtain ⟨fd, F⟩ := c.def_ 22 (d := d__law_plain) rfl
  haveI := tx_Ring c
  haveI := tx_SlotRing c
  haveI : XcI K "TickringsError" "RingError" "held" := ⟨xf_RingError c⟩
  refine calX (fnX (t := t__law_plain K) F sc__law_plain ln__law_plain (fun vs H Q E h => pu__law_plain h) (fun cdv A outer s H E hr => ?_)) (He.glo_ok X0 G (c.fact 3 rfl)) F.kp (FunD.bindsN F (ps := ["_law_plain_here", "_law_slots", "_law_kind", "_law_number"]) fun _ _ _ _ _ _ us hl => match us, hl with | [_, _, _, _], _ => rfl) .nil
  exact pss_cons (ps_asg (pv 0) (pg_unl rfl (pgs_cons (pg_name (i := 4) sc__law_plain.nd rfl (by first | exact Or.inl rfl | exact Or.inr rfl)) (pgs_cons (pg_name (i := 5) sc__law_plain.nd rfl (by first | exact Or.inl rfl | exact Or.inr rfl)) (pgs_cons (pg_name (i := 6) sc__law_plain.nd rfl (by first | exact Or.inl rfl | exact Or.inr rfl)) (pgs_nil))))))
      (pss_cons (ps_if (pt_cmpR op_eq (pv 2) (pe_int) (nomark _)) (pss_cons (ps_if (pt_cmpR op_eq (pe_op op_addI (pe_callB call_lenI (by rfl) (b_len c X0 G) (by decide +kernel) (pa_cons (pv 4) (pa_nil))) (pe_callB call_lenI (by rfl) (b_len c X0 G) (by decide +kernel) (pa_cons (pv 6) (pa_nil)))) (pv 1) (nomark _)) (pss_one (ps_ret (pe_tup (pa_cons (pe_str) (pa_cons (pe_bl) (pa_nil)))))) (pss_nil))
      (pss_cons (ps_expr (pe_bm PySem.F.plainAttrs_list PySem.F.slot_list_append PySem.F.type_list_append mt_append (pv 4) (pa_cons (pv 3) (pa_nil))))
      (pss_one (ps_ret (pe_tup (pa_cons (pe_str) (pa_cons (pe_bl) (pa_nil)))))))) (pss_nil))
      (pss_cons (ps_if (pt_cmpR op_eq (pv 2) (pe_int) (nomark _)) (pss_cons (ps_if (pt_cmpR op_eq (pe_callB call_lenI (by rfl) (b_len c X0 G) (by decide +kernel) (pa_cons (pv 6) (pa_nil))) (pe_int) (nomark _)) (pss_one (ps_ret (pe_tup (pa_cons (pe_str) (pa_cons (pe_int) (pa_nil)))))) (pss_nil))
      (pss_one (ps_ret (pe_tup (pa_cons (pe_str) (pa_cons (pe_bm PySem.F.plainAttrs_list PySem.F.slot_list_pop PySem.F.type_list_pop mt_popAt (pv 6) (pa_cons (pe_int) (pa_nil))) (pa_nil))))))) (pss_nil))
      (pss_cons (ps_if (pt_cmpR op_eq (pe_callB call_lenI (by rfl) (b_len c X0 G) (by decide +kernel) (pa_cons (pv 4) (pa_nil))) (pe_int) (nomark _)) (pss_one (ps_ret (pe_tup (pa_cons (pe_str) (pa_cons (pe_int) (pa_nil)))))) (pss_nil))
      (pss_cons (ps_if (pt_cmpR op_eq (pv 2) (pe_int) (nomark _)) (pss_one (ps_expr (pe_bm PySem.F.plainAttrs_list PySem.F.slot_list_append PySem.F.type_list_append mt_append (pv 5) (pa_cons (pv 3) (pa_nil))))) (pss_cons (ps_expr (pe_bm PySem.F.plainAttrs_list PySem.F.slot_list_append PySem.F.type_list_append mt_append (pv 6) (pa_cons (pe_tup (pa_cons (pe_bm PySem.F.plainAttrs_list PySem.F.slot_list_pop PySem.F.type_list_pop mt_popAt (pv 4) (pa_cons (pe_int) (pa_nil))) (pa_cons (pe_callTy call_listI (by rfl) (b_list c X0 G) (by decide +kernel) (pa_cons (pv 5) (pa_nil))) (pa_cons (pv 3) (pa_nil))))) (pa_nil))))
      (pss_one (ps_expr (pe_bm0 PySem.F.plainAttrs_list PySem.F.slot_list_clear PySem.F.type_list_clear mt_clear (pv 5))))))
      (pss_one (ps_ret (pe_tup (pa_cons (pe_str) (pa_cons (pe_non) (pa_nil))))))))))
theorem ok_Ring_held : C8.Met P w K mg base 1 (He.ga K "Ring") "held" (sp_Ring_held K) [] := by
  obtain ⟨fd, F⟩ := c.def_ 1 (d := d_Ring_held) rfl
  haveI := tx_Ring c
  haveI := tx_SlotRing c
  haveI : XcI K "TickringsError" "RingError" "held" := ⟨xf_RingError c⟩
  refine metX (He.cls_ok (c.fact 7 rfl)) (He.meth_ok (c.fact 10 rfl)) (fnX (t := t_Ring_held K) F sc_Ring_held ln_Ring_held (fun vs H Q E h => pu_Ring_held h) (fun cdv A outer s H E hr => ?_)) (FunD.bindsN F (ps := ["self"]) fun _ _ _ _ _ _ us hl => match us, hl with | [_], _ => rfl)
  exact pss_cons (ps_set (i := 1) sc_Ring_held.nd rfl (by first | exact Or.inl rfl | exact Or.inr rfl) (pe_callB call_lenI (by rfl) (b_len c X0 G) (by decide +kernel) (pa_cons (pe_fld (pv 0) rfl) (pa_nil))))
      (pss_one (ps_ret (pe_op op_modI (pe_op op_subI (pe_fld (pv 0) rfl) (pe_fld (pv 0) rfl)) (pe_op op_mulI (pe_int) (pv 1)))))
theorem ok_SlotRing_can_arm : C8.Met P w K mg base 2 (He.ga K "SlotRing") "can_arm" (sp_SlotRing_can_arm K) [] := by
  obtain ⟨fd, F⟩ := c.def_ 8 (d := d_SlotRing_can_arm) rfl
  haveI := tx_Ring c
  haveI := tx_SlotRing c
  haveI : XcI K "TickringsError" "RingError" "held" := ⟨xf_RingError c⟩
  refine metX (He.cls_ok (c.fact 20 rfl)) (He.meth_ok (c.fact 23 rfl)) (fnX (t := t_SlotRing_can_arm K) F sc_SlotRing_can_arm ln_SlotRing_can_arm (fun vs H Q E h => pu_SlotRing_can_arm h) (fun cdv A outer s H E hr => ?_)) (FunD.bindsN F (ps := ["self"]) fun _ _ _ _ _ _ us hl => match us, hl with | [_], _ => rfl)
  exact pss_one (ps_ret (pe_cmpR op_ltI (pe_op op_addI (C8.pe_mt0 (ok_Ring_held c X0 G) hr (by decide) (pe_fld (pv 0) rfl)) (C8.pe_mt0 (ok_Ring_held c X0 G) hr (by decide) (pe_fld (pv 0) rfl))) (pe_fld (pv 0) rfl) (nomark _)))
theorem ok_Ring_is_full : C8.Met P w K mg base 2 (He.ga K "Ring") "is_full" (sp_Ring_is_full K) [] := by
  obtain ⟨fd, F⟩ := c.def_ 2 (d := d_Ring_is_full) rfl
  haveI := tx_Ring c
  haveI := tx_SlotRing c
  haveI : XcI K "TickringsError" "RingError" "held" := ⟨xf_RingError c⟩
  refine metX (He.cls_ok (c.fact 7 rfl)) (He.meth_ok (c.fact 11 rfl)) (fnX (t := t_Ring_is_full K) F sc_Ring_is_full ln_Ring_is_full (fun vs H Q E h => pu_Ring_is_full h) (fun cdv A outer s H E hr => ?_)) (FunD.bindsN F (ps := ["self"]) fun _ _ _ _ _ _ us hl => match us, hl with | [_], _ => rfl)
  exact pss_one (ps_ret (pe_cmpR op_eq (C8.pe_mt0 (ok_Ring_held c X0 G) hr (by decide) (pv 0)) (pe_callB call_lenI (by rfl) (b_len c X0 G) (by decide +kernel) (pa_cons (pe_fld (pv 0) rfl) (pa_nil))) (nomark _)))
theorem ok_Ring_put : C8.Met P w K mg base 3 (He.ga K "Ring") "put" (sp_Ring_put K) [] := by
  obtain ⟨fd, F⟩ := c.def_ 3 (d := d_Ring_put) rfl
  haveI := tx_Ring c
  haveI := tx_SlotRing c
  haveI : XcI K "TickringsError" "RingError" "held" := ⟨xf_RingError c⟩
  refine metX (He.cls_ok (c.fact 7 rfl)) (He.meth_ok (c.fact 12 rfl)) (fnX (t := t_Ring_put K) F sc_Ring_put ln_Ring_put (fun vs H Q E h => pu_Ring_put h) (fun cdv A outer s H E hr => ?_)) (FunD.bindsN F (ps := ["self", "value"]) fun _ _ _ _ _ _ us hl => match us, hl with | [_, _], _ => rfl)
  exact pss_cons (ps_set (i := 2) sc_Ring_put.nd rfl (by first | exact Or.inl rfl | exact Or.inr rfl) (pe_callB call_lenI (by rfl) (b_len c X0 G) (by decide +kernel) (pa_cons (pe_fld (pv 0) rfl) (pa_nil))))
      (pss_cons (ps_if (pt_val (C8.pe_mt0 (ok_Ring_is_full c X0 G) hr (by decide) (pv 0))) (pss_one (ps_never)) (pss_nil))
      (pss_cons (ps_asg (pv 1) (pg_sub (pe_fld (pv 0) rfl) (pe_op op_modI (pe_fld (pv 0) rfl) (pv 2)) set_list))
      (pss_one (ps_fld (pv 0) (pe_op op_modI (pe_op op_addI (pe_fld (pv 0) rfl) (pe_int)) (pe_op op_mulI (pe_int) (pv 2))) rfl))))
theorem ok_SlotRing_arm : C8.Met P w K mg base 4 (He.ga K "SlotRing") "arm" (sp_SlotRing_arm K) [] := by
  obtain ⟨fd, F⟩ := c.def_ 9 (d := d_SlotRing_arm) rfl
  haveI := tx_Ring c
  haveI := tx_SlotRing c
  haveI : XcI K "TickringsError" "RingError" "held" := ⟨xf_RingError c⟩
  refine metX (He.cls_ok (c.fact 20 rfl)) (He.meth_ok (c.fact 24 rfl)) (fnX (t := t_SlotRing_arm K) F sc_SlotRing_arm ln_SlotRing_arm (fun vs H Q E h => pu_SlotRing_arm h) (fun cdv A outer s H E hr => ?_)) (FunD.bindsN F (ps := ["self", "buffer"]) fun _ _ _ _ _ _ us hl => match us, hl with | [_, _], _ => rfl)
  exact pss_cons (ps_if (pt_not (pt_val (C8.pe_mt0 (ok_SlotRing_can_arm c X0 G) hr (by decide) (pv 0)))) (pss_one (ps_ret (pe_bl))) (pss_nil))
      (pss_cons (ps_expr (C8.pe_mt (ok_Ring_put c X0 G) hr (by decide) (pe_fld (pv 0) rfl) (pa_cons (pv 1) (pa_nil))))
      (pss_one (ps_ret (pe_bl))))
theorem ok_SlotRing_add : MetE P w K mg base 3 (He.ga K "SlotRing") "add" (sp_SlotRing_add K) := by
  obtain ⟨fd, F⟩ := c.def_ 13 (d := d_SlotRing_add) rfl
  haveI := tx_Ring c
  haveI := tx_SlotRing c
  haveI : XcI K "TickringsError" "RingError" "held" := ⟨xf_RingError c⟩
  refine metE (He.cls_ok (c.fact 20 rfl)) (He.meth_ok (c.fact 28 rfl)) (fnXE (t := t_SlotRing_add K) F sc_SlotRing_add ln_SlotRing_add (fun vs H Q E h => pu_SlotRing_add h) (fun cdv A outer s H E W tk hr => ?_)) (FunD.bindsN F (ps := ["self", "byte"]) fun _ _ _ _ _ _ us hl => match us, hl with | [_, _], _ => rfl)
  exact pss_cons (ps_if (pt_cmpR op_eq (C8.pe_mt0 (ok_Ring_held c X0 G) hr (by decide) (pe_fld (pv 0) rfl)) (pe_int) (nomark _)) (pss_one (ps_rz (x_RingError c X0 G) hr (by decide) rfl tk rfl (pe_int))) (pss_nil))
      (pss_one (ps_expr (pe_bm PySem.F.plainAttrs_list PySem.F.slot_list_append PySem.F.type_list_append mt_append (pe_fld (pv 0) rfl) (pa_cons (pv 1) (pa_nil)))))
theorem ok_Ring_first : MetE P w K mg base 3 (He.ga K "Ring") "first" (sp_Ring_first K) := by
  obtain ⟨fd, F⟩ := c.def_ 4 (d := d_Ring_first) rfl
  haveI := tx_Ring c
  haveI := tx_SlotRing c
  haveI : XcI K "TickringsError" "RingError" "held" := ⟨xf_RingError c⟩
  refine metE (He.cls_ok (c.fact 7 rfl)) (He.meth_ok (c.fact 13 rfl)) (fnXE (t := t_Ring_first K) F sc_Ring_first ln_Ring_first (fun vs H Q E h => pu_Ring_first h) (fun cdv A outer s H E W tk hr => ?_)) (FunD.bindsN F (ps := ["self"]) fun _ _ _ _ _ _ us hl => match us, hl with | [_], _ => rfl)
  exact pss_cons (ps_if (pt_cmpR op_eq (C8.pe_mt0 (ok_Ring_held c X0 G) hr (by decide) (pv 0)) (pe_int) (nomark _)) (pss_one (ps_rz (x_RingError c X0 G) hr (by decide) rfl tk rfl (pe_int))) (pss_nil))
      (pss_one (ps_ret (pe_ix ix_list (pe_fld (pv 0) rfl) (pe_op op_modI (pe_fld (pv 0) rfl) (pe_callB call_lenI (by rfl) (b_len c X0 G) (by decide +kernel) (pa_cons (pe_fld (pv 0) rfl) (pa_nil)))) (fun _ _ => rfl))))
theorem ok_Ring_take : MetE P w K mg base 4 (He.ga K "Ring") "take" (sp_Ring_take K) := by
  obtain ⟨fd, F⟩ := c.def_ 5 (d := d_Ring_take) rfl
  haveI := tx_Ring c
  haveI := tx_SlotRing c
  haveI : XcI K "TickringsError" "RingError" "held" := ⟨xf_RingError c⟩
  refine metE (He.cls_ok (c.fact 7 rfl)) (He.meth_ok (c.fact 14 rfl)) (fnXE (t := t_Ring_take K) F sc_Ring_take ln_Ring_take (fun vs H Q E h => pu_Ring_take h) (fun cdv A outer s H E W tk hr => ?_)) (FunD.bindsN F (ps := ["self"]) fun _ _ _ _ _ _ us hl => match us, hl with | [_], _ => rfl)
  exact pss_cons (ps_set (i := 1) sc_Ring_take.nd rfl (by first | exact Or.inl rfl | exact Or.inr rfl) (pe_mtE0 (ok_Ring_first c X0 G) hr (by decide) tk (pv 0)))
      (pss_cons (ps_set (i := 2) sc_Ring_take.nd rfl (by first | exact Or.inl rfl | exact Or.inr rfl) (pe_callB call_lenI (by rfl) (b_len c X0 G) (by decide +kernel) (pa_cons (pe_fld (pv 0) rfl) (pa_nil))))
      (pss_cons (ps_asg (pe_non) (pg_sub (pe_fld (pv 0) rfl) (pe_op op_modI (pe_fld (pv 0) rfl) (pv 2)) set_list))
      (pss_cons (ps_fld (pv 0) (pe_op op_modI (pe_op op_addI (pe_fld (pv 0) rfl) (pe_int)) (pe_op op_mulI (pe_int) (pv 2))) rfl)
      (pss_one (ps_ret (pv 1))))))
theorem ok_SlotRing_close : MetE P w K mg base 5 (He.ga K "SlotRing") "close" (sp_SlotRing_close K) := by
  obtain ⟨fd, F⟩ := c.def_ 14 (d := d_SlotRing_close) rfl
  haveI := tx_Ring c
  haveI := tx_SlotRing c
  haveI : XcI K "TickringsError" "RingError" "held" := ⟨xf_RingError c⟩
  refine metE (He.cls_ok (c.fact 20 rfl)) (He.meth_ok (c.fact 29 rfl)) (fnXE (t := t_SlotRing_close K) F sc_SlotRing_close ln_SlotRing_close (fun vs H Q E h => pu_SlotRing_close h) (fun cdv A outer s H E W tk hr => ?_)) (FunD.bindsN F (ps := ["self", "lost"]) fun _ _ _ _ _ _ us hl => match us, hl with | [_, _], _ => rfl)
  exact pss_cons (ps_set (i := 2) sc_SlotRing_close.nd rfl (by first | exact Or.inl rfl | exact Or.inr rfl) (pe_mtE0 (ok_Ring_take c X0 G) hr (by decide) tk (pe_fld (pv 0) rfl)))
      (pss_cons (ps_expr (C8.pe_mt (ok_Ring_put c X0 G) hr (by decide) (pe_fld (pv 0) rfl) (pa_cons (pe_tup (pa_cons (pv 2) (pa_cons (pe_fld (pv 0) rfl) (pa_cons (pv 1) (pa_nil))))) (pa_nil))))
      (pss_one (ps_fld (pv 0) (pe_lst (pa_nil)) rfl)))
theorem ok_SlotRing_reap : MetE P w K mg base 5 (He.ga K "SlotRing") "reap" (sp_SlotRing_reap K) := by
  obtain ⟨fd, F⟩ := c.def_ 16 (d := d_SlotRing_reap) rfl
  haveI := tx_Ring c
  haveI := tx_SlotRing c
  haveI : XcI K "TickringsError" "RingError" "held" := ⟨xf_RingError c⟩
  refine metE (He.cls_ok (c.fact 20 rfl)) (He.meth_ok (c.fact 31 rfl)) (fnXE (t := t_SlotRing_reap K) F sc_SlotRing_reap ln_SlotRing_reap (fun vs H Q E h => pu_SlotRing_reap h) (fun cdv A outer s H E W tk hr => ?_)) (FunD.bindsN F (ps := ["self"]) fun _ _ _ _ _ _ us hl => match us, hl with | [_], _ => rfl)
  exact pss_one (ps_ret (pe_mtE0 (ok_Ring_take c X0 G) hr (by decide) tk (pe_fld (pv 0) rfl)))
theorem ok__law_deed : C8.Cal P w K mg base 6 "_law_deed" (sp__law_deed K) [] := by
  obtain ⟨fd, F⟩ := c.def_ 21 (d := d__law_deed) rfl
  haveI := tx_Ring c
  haveI := tx_SlotRing c
  haveI : XcI K "TickringsError" "RingError" "held" := ⟨xf_RingError c⟩
  refine calX (fnX (t := t__law_deed K) F sc__law_deed ln__law_deed (fun vs H Q E h => pu__law_deed h) (fun cdv A outer s H E hr => ?_)) (He.glo_ok X0 G (c.fact 2 rfl)) F.kp (FunD.bindsN F (ps := ["_law_ring", "_law_kind", "_law_number"]) fun _ _ _ _ _ _ us hl => match us, hl with | [_, _, _], _ => rfl) .nil
  exact pss_cons (ps_tryX (g_RingError c X0 G) sc__law_deed.nd rfl rfl rfl rfl rfl (by decide +kernel) (fun W xpn xxe tk => pss_cons (ps_if (pt_cmpR op_eq (pv 1) (pe_int) (nomark _)) (pss_one (ps_ret (pe_tup (pa_cons (pe_str) (pa_cons (C8.pe_mt (ok_SlotRing_arm c X0 G) hr (by decide) (pv 0) (pa_cons (pv 2) (pa_nil))) (pa_nil)))))) (pss_nil))
      (pss_one (ps_if (pt_cmpR op_eq (pv 1) (pe_int) (nomark _)) (pss_one (ps_expr (pe_mtE (ok_SlotRing_add c X0 G) hr (by decide) tk (pv 0) (pa_cons (pv 2) (pa_nil))))) (pss_one (ps_if (pt_cmpR op_eq (pv 1) (pe_int) (nomark _)) (pss_one (ps_expr (pe_mtE (ok_SlotRing_close c X0 G) hr (by decide) tk (pv 0) (pa_cons (pv 2) (pa_nil))))) (pss_one (ps_ret (pe_tup (pa_cons (pe_str) (pa_cons (pe_mtE0 (ok_SlotRing_reap c X0 G) hr (by decide) tk (pv 0)) (pa_nil))))))))))) (fun xa xo xc xd xpn xz xh => pss_one (ps_ret (pe_tup (pa_cons (pe_str) (pa_cons (pe_xf (xf_RingError c).xf (xf_RingError c).no xz xh (pv 3)) (pa_nil)))))))
      (pss_one (ps_ret (pe_tup (pa_cons (pe_str) (pa_cons (pe_non) (pa_nil))))))
theorem ok_SlotRing_open_slot : C8.Met P w K mg base 4 (He.ga K "SlotRing") "open_slot" (sp_SlotRing_open_slot K) [] := by
  obtain ⟨fd, F⟩ := c.def_ 10 (d := d_SlotRing_open_slot) rfl
  haveI := tx_Ring c
  haveI := tx_SlotRing c
  haveI : XcI K "TickringsError" "RingError" "held" := ⟨xf_RingError c⟩
  refine metX (He.cls_ok (c.fact 20 rfl)) (He.meth_ok (c.fact 25 rfl)) (fnX (t := t_SlotRing_open_slot K) F sc_SlotRing_open_slot ln_SlotRing_open_slot (fun vs H Q E h => pu_SlotRing_open_slot h) (fun cdv A outer s H E hr => ?_)) (FunD.bindsN F (ps := ["self"]) fun _ _ _ _ _ _ us hl => match us, hl with | [_], _ => rfl)
  exact pss_cons (ps_if (pt_cmpR op_eq (C8.pe_mt0 (ok_Ring_held c X0 G) hr (by decide) (pe_fld (pv 0) rfl)) (pe_int) (nomark _)) (pss_one (ps_ret (pe_non))) (pss_nil))
      (pss_one (ps_ret (pe_mtE0 (ok_Ring_first c X0 G) hr (by decide) takes0 (pe_fld (pv 0) rfl))))
theorem ok_SlotRing_open_bytes : C8.Met P w K mg base 1 (He.ga K "SlotRing") "open_bytes" (sp_SlotRing_open_bytes K) [] := by
  obtain ⟨fd, F⟩ := c.def_ 11 (d := d_SlotRing_open_bytes) rfl
  haveI := tx_Ring c
  haveI := tx_SlotRing c
  haveI : XcI K "TickringsError" "RingError" "held" := ⟨xf_RingError c⟩
  refine metX (He.cls_ok (c.fact 20 rfl)) (He.meth_ok (c.fact 26 rfl)) (fnX (t := t_SlotRing_open_bytes K) F sc_SlotRing_open_bytes ln_SlotRing_open_bytes (fun vs H Q E h => pu_SlotRing_open_bytes h) (fun cdv A outer s H E hr => ?_)) (FunD.bindsN F (ps := ["self"]) fun _ _ _ _ _ _ us hl => match us, hl with | [_], _ => rfl)
  exact pss_one (ps_ret (pe_callTy call_listI (by rfl) (b_list c X0 G) (by decide +kernel) (pa_cons (pe_fld (pv 0) rfl) (pa_nil))))
theorem ok_SlotRing_open_count : C8.Met P w K mg base 1 (He.ga K "SlotRing") "open_count" (sp_SlotRing_open_count K) [] := by
  obtain ⟨fd, F⟩ := c.def_ 12 (d := d_SlotRing_open_count) rfl
  haveI := tx_Ring c
  haveI := tx_SlotRing c
  haveI : XcI K "TickringsError" "RingError" "held" := ⟨xf_RingError c⟩
  refine metX (He.cls_ok (c.fact 20 rfl)) (He.meth_ok (c.fact 27 rfl)) (fnX (t := t_SlotRing_open_count K) F sc_SlotRing_open_count ln_SlotRing_open_count (fun vs H Q E h => pu_SlotRing_open_count h) (fun cdv A outer s H E hr => ?_)) (FunD.bindsN F (ps := ["self"]) fun _ _ _ _ _ _ us hl => match us, hl with | [_], _ => rfl)
  exact pss_one (ps_ret (pe_callB call_lenI (by rfl) (b_len c X0 G) (by decide +kernel) (pa_cons (pe_fld (pv 0) rfl) (pa_nil))))
theorem ok_SlotRing_oldest : C8.Met P w K mg base 4 (He.ga K "SlotRing") "oldest" (sp_SlotRing_oldest K) [] := by
  obtain ⟨fd, F⟩ := c.def_ 15 (d := d_SlotRing_oldest) rfl
  haveI := tx_Ring c
  haveI := tx_SlotRing c
  haveI : XcI K "TickringsError" "RingError" "held" := ⟨xf_RingError c⟩
  refine metX (He.cls_ok (c.fact 20 rfl)) (He.meth_ok (c.fact 30 rfl)) (fnX (t := t_SlotRing_oldest K) F sc_SlotRing_oldest ln_SlotRing_oldest (fun vs H Q E h => pu_SlotRing_oldest h) (fun cdv A outer s H E hr => ?_)) (FunD.bindsN F (ps := ["self"]) fun _ _ _ _ _ _ us hl => match us, hl with | [_], _ => rfl)
  exact pss_cons (ps_if (pt_cmpR op_eq (C8.pe_mt0 (ok_Ring_held c X0 G) hr (by decide) (pe_fld (pv 0) rfl)) (pe_int) (nomark _)) (pss_one (ps_ret (pe_non))) (pss_nil))
      (pss_cons (ps_asg (pe_mtE0 (ok_Ring_first c X0 G) hr (by decide) takes0 (pe_fld (pv 0) rfl)) (pg_tup rfl (pgs_cons (pg_name (i := 1) sc_SlotRing_oldest.nd rfl (by first | exact Or.inl rfl | exact Or.inr rfl)) (pgs_cons (pg_name (i := 2) sc_SlotRing_oldest.nd rfl (by first | exact Or.inl rfl | exact Or.inr rfl)) (pgs_cons (pg_name (i := 3) sc_SlotRing_oldest.nd rfl (by first | exact Or.inl rfl | exact Or.inr rfl)) (pgs_nil))))))
      (pss_one (ps_ret (pe_tup (pa_cons (pv 1) (pa_cons (pe_callTy call_listI (by rfl) (b_list c X0 G) (by decide +kernel) (pa_cons (pv 2) (pa_nil))) (pa_cons (pv 3) (pa_nil))))))))
theorem ok_Ring_listed : C8.Met P w K mg base 2 (He.ga K "Ring") "listed" (sp_Ring_listed K) [] := by
  obtain ⟨fd, F⟩ := c.def_ 6 (d := d_Ring_listed) rfl
  haveI := tx_Ring c
  haveI := tx_SlotRing c
  haveI : XcI K "TickringsError" "RingError" "held" := ⟨xf_RingError c⟩
  refine metX (He.cls_ok (c.fact 7 rfl)) (He.meth_ok (c.fact 15 rfl)) (fnX (t := t_Ring_listed K) F sc_Ring_listed ln_Ring_listed (fun vs H Q E h => pu_Ring_listed h) (fun cdv A outer s H E hr => ?_)) (FunD.bindsN F (ps := ["self"]) fun _ _ _ _ _ _ us hl => match us, hl with | [_], _ => rfl)
  exact pss_cons (ps_set (i := 1) sc_Ring_listed.nd rfl (by first | exact Or.inl rfl | exact Or.inr rfl) (pe_callB call_lenI (by rfl) (b_len c X0 G) (by decide +kernel) (pa_cons (pe_fld (pv 0) rfl) (pa_nil))))
      (pss_one (ps_ret (pe_lc (own := [("k", 2)]) (g := gName 2) (tt := tYes) (te := tOp (rIxL K) (tFld K (tVar 0) "cells") (tOp rModI (tOp rAddI (tFld K (tVar 0) "taken") (tVar 2)) (tVar 1))) rfl sc_Ring_listed.nd (pi_range1 rfl (b_range c X0 G) (pa_cons (C8.pe_mt0 (ok_Ring_held c X0 G) hr (by decide) (pv 0)) (pa_nil))) (blkOk_by (own := [("k", 2)]) (N := n_Ring_listed) (sc := defScope s_Ring_listed) (by decide +kernel)) (fun _ _ _ _ _ => pg_name (i := 2) sc_Ring_listed.nd rfl (by first | exact Or.inl rfl | exact Or.inr rfl)) (fun _ _ _ _ _ => pts_nil) (fun _ _ _ _ _ => pe_ix ix_list (pe_fld (pv 0) rfl) (pe_op op_modI (pe_op op_addI (pe_fld (pv 0) rfl) (pv 2)) (pv 1)) (fun _ _ => rfl)))))
theorem ok_SlotRing_filled_slots : C8.Met P w K mg base 3 (He.ga K "SlotRing") "filled_slots" (sp_SlotRing_filled_slots K) [] := by
  obtain ⟨fd, F⟩ := c.def_ 17 (d := d_SlotRing_filled_slots) rfl
  haveI := tx_Ring c
  haveI := tx_SlotRing c
  haveI : XcI K "TickringsError" "RingError" "held" := ⟨xf_RingError c⟩
  refine metX (He.cls_ok (c.fact 20 rfl)) (He.meth_ok (c.fact 32 rfl)) (fnX (t := t_SlotRing_filled_slots K) F sc_SlotRing_filled_slots ln_SlotRing_filled_slots (fun vs H Q E h => pu_SlotRing_filled_slots h) (fun cdv A outer s H E hr => ?_)) (FunD.bindsN F (ps := ["self"]) fun _ _ _ _ _ _ us hl => match us, hl with | [_], _ => rfl)
  exact pss_one (ps_ret (pe_lc (own := [("buffer", 1), ("data", 2), ("lost", 3)]) (g := gTup K 3 (gCons (gName 1) (gCons (gName 2) (gCons (gName 3) (gNil))))) (tt := tYes) (te := tTup (tCons (tVar 1) (tCons (tCB (rList K) (tCons (tVar 2) (tNil))) (tCons (tVar 3) (tNil))))) rfl sc_SlotRing_filled_slots.nd (pi_list (C8.pe_mt0 (ok_Ring_listed c X0 G) hr (by decide) (pe_fld (pv 0) rfl))) (blkOk_by (own := [("buffer", 1), ("data", 2), ("lost", 3)]) (N := n_SlotRing_filled_slots) (sc := defScope s_SlotRing_filled_slots) (by decide +kernel)) (fun _ _ _ _ _ => pg_tup rfl (pgs_cons (pg_name (i := 1) sc_SlotRing_filled_slots.nd rfl (by first | exact Or.inl rfl | exact Or.inr rfl)) (pgs_cons (pg_name (i := 2) sc_SlotRing_filled_slots.nd rfl (by first | exact Or.inl rfl | exact Or.inr rfl)) (pgs_cons (pg_name (i := 3) sc_SlotRing_filled_slots.nd rfl (by first | exact Or.inl rfl | exact Or.inr rfl)) (pgs_nil))))) (fun _ _ _ _ _ => pts_nil) (fun _ _ _ _ _ => pe_tup (pa_cons (pv 1) (pa_cons (pe_callTy call_listI (by rfl) (b_list c X0 G) (by decide +kernel) (pa_cons (pv 2) (pa_nil))) (pa_cons (pv 3) (pa_nil)))))))
theorem ok_SlotRing_buffers : C8.Met P w K mg base 3 (He.ga K "SlotRing") "buffers" (sp_SlotRing_buffers K) [] := by
  obtain ⟨fd, F⟩ := c.def_ 18 (d := d_SlotRing_buffers) rfl
  haveI := tx_Ring c
  haveI := tx_SlotRing c
  haveI : XcI K "TickringsError" "RingError" "held" := ⟨xf_RingError c⟩
  refine metX (He.cls_ok (c.fact 20 rfl)) (He.meth_ok (c.fact 33 rfl)) (fnX (t := t_SlotRing_buffers K) F sc_SlotRing_buffers ln_SlotRing_buffers (fun vs H Q E h => pu_SlotRing_buffers h) (fun cdv A outer s H E hr => ?_)) (FunD.bindsN F (ps := ["self"]) fun _ _ _ _ _ _ us hl => match us, hl with | [_], _ => rfl)
  exact pss_one (ps_ret (pe_op op_cat (pe_lc (own := [("slot", 1)]) (g := gName 1) (tt := tYes) (te := tOp (rIxT K) (tVar 1) (tC (.int 0))) rfl sc_SlotRing_buffers.nd (pi_list (C8.pe_mt0 (ok_Ring_listed c X0 G) hr (by decide) (pe_fld (pv 0) rfl))) (blkOk_by (own := [("slot", 1)]) (N := n_SlotRing_buffers) (sc := defScope s_SlotRing_buffers) (by decide +kernel)) (fun _ _ _ _ _ => pg_name (i := 1) sc_SlotRing_buffers.nd rfl (by first | exact Or.inl rfl | exact Or.inr rfl)) (fun _ _ _ _ _ => pts_nil) (fun _ _ _ _ _ => pe_ix ix_tup (pv 1) (pe_int) (fun _ _ => rfl))) (C8.pe_mt0 (ok_Ring_listed c X0 G) hr (by decide) (pe_fld (pv 0) rfl))))
theorem ok__law_same : C8.Cal P w K mg base 5 "_law_same" (sp__law_same K) [] := by
  obtain ⟨fd, F⟩ := c.def_ 23 (d := d__law_same) rfl
  haveI := tx_Ring c
  haveI := tx_SlotRing c
  haveI : XcI K "TickringsError" "RingError" "held" := ⟨xf_RingError c⟩
  refine calX (fnX (t := t__law_same K) F sc__law_same ln__law_same (fun vs H Q E h => pu__law_same h) (fun cdv A outer s H E hr => ?_)) (He.glo_ok X0 G (c.fact 4 rfl)) F.kp (FunD.bindsN F (ps := ["_law_ring", "_law_plain_here", "_law_slots"]) fun _ _ _ _ _ _ us hl => match us, hl with | [_, _, _], _ => rfl) .nil
  exact pss_cons (ps_asg (pv 1) (pg_unl rfl (pgs_cons (pg_name (i := 3) sc__law_same.nd rfl (by first | exact Or.inl rfl | exact Or.inr rfl)) (pgs_cons (pg_name (i := 4) sc__law_same.nd rfl (by first | exact Or.inl rfl | exact Or.inr rfl)) (pgs_cons (pg_name (i := 5) sc__law_same.nd rfl (by first | exact Or.inl rfl | exact Or.inr rfl)) (pgs_nil))))))
      (pss_cons (ps_set (i := 6) sc__law_same.nd rfl (by first | exact Or.inl rfl | exact Or.inr rfl) (pe_non))
      (pss_cons (ps_if (pt_cmpR op_gtI (pe_callB call_lenI (by rfl) (b_len c X0 G) (by decide +kernel) (pa_cons (pv 3) (pa_nil))) (pe_int) (nomark _)) (pss_one (ps_set (i := 6) sc__law_same.nd rfl (by first | exact Or.inl rfl | exact Or.inr rfl) (pe_ix ix_list (pv 3) (pe_int) (fun _ _ => rfl)))) (pss_nil))
      (pss_cons (ps_set (i := 7) sc__law_same.nd rfl (by first | exact Or.inl rfl | exact Or.inr rfl) (pe_non))
      (pss_cons (ps_if (pt_cmpR op_gtI (pe_callB call_lenI (by rfl) (b_len c X0 G) (by decide +kernel) (pa_cons (pv 5) (pa_nil))) (pe_int) (nomark _)) (pss_one (ps_set (i := 7) sc__law_same.nd rfl (by first | exact Or.inl rfl | exact Or.inr rfl) (pe_ix ix_list (pv 5) (pe_int) (fun _ _ => rfl)))) (pss_nil))
      (pss_cons (ps_set (i := 8) sc__law_same.nd rfl (by first | exact Or.inl rfl | exact Or.inr rfl) (C8.pe_mt0 (ok_SlotRing_can_arm c X0 G) hr (by decide) (pv 0)))
      (pss_cons (ps_if (PW.pt (pw_or (pt_not (pt_val (pe_callB call_isi (by rfl) (b_isinstance c X0 G) (by decide +kernel) (pa_cons (pv 8) (pa_cons (pe_bltn (by rfl) (b_bool c X0 G) (by decide +kernel) rfl) (pa_nil)))))) (pw_or1 (pt_cmpR op_ne (pv 8) (pe_cmpR op_ltI (pe_op op_addI (pe_callB call_lenI (by rfl) (b_len c X0 G) (by decide +kernel) (pa_cons (pv 3) (pa_nil))) (pe_callB call_lenI (by rfl) (b_len c X0 G) (by decide +kernel) (pa_cons (pv 5) (pa_nil)))) (pv 2) (nomark _)) (nomark _))))) (pss_one (ps_ret (pe_bl))) (pss_nil))
      (pss_cons (ps_if (PW.pt (pw_or (pt_cmpR op_ne (C8.pe_mt0 (ok_SlotRing_open_slot c X0 G) hr (by decide) (pv 0)) (pv 6) (nomark _)) (pw_or (pt_cmpR (op_neD hr.units) (C8.pe_mt0 (ok_SlotRing_open_bytes c X0 G) hr (by decide) (pv 0)) (pv 4) (nomark _)) (pw_or1 (pt_cmpR op_ne (C8.pe_mt0 (ok_SlotRing_open_count c X0 G) hr (by decide) (pv 0)) (pe_callB call_lenI (by rfl) (b_len c X0 G) (by decide +kernel) (pa_cons (pv 4) (pa_nil))) (nomark _)))))) (pss_one (ps_ret (pe_bl))) (pss_nil))
      (pss_cons (ps_if (PW.pt (pw_or (pt_cmpR (op_neD hr.units) (C8.pe_mt0 (ok_SlotRing_oldest c X0 G) hr (by decide) (pv 0)) (pv 7) (nomark _)) (pw_or1 (pt_cmpR (op_neD hr.units) (C8.pe_mt0 (ok_SlotRing_filled_slots c X0 G) hr (by decide) (pv 0)) (pv 5) (nomark _))))) (pss_one (ps_ret (pe_bl))) (pss_nil))
      (pss_cons (ps_expr (pe_bm PySem.F.plainAttrs_list PySem.F.slot_list_append PySem.F.type_list_append mt_append (C8.pe_mt0 (ok_SlotRing_open_bytes c X0 G) hr (by decide) (pv 0)) (pa_cons (pe_int) (pa_nil))))
      (pss_cons (ps_for PassesOwn.never rfl (pi_list (C8.pe_mt0 (ok_SlotRing_filled_slots c X0 G) hr (by decide) (pv 0))) (pg_name (i := 9) sc__law_same.nd rfl (by first | exact Or.inl rfl | exact Or.inr rfl)) (pss_one (ps_expr (pe_bm PySem.F.plainAttrs_list PySem.F.slot_list_append PySem.F.type_list_append mt_append (pe_ix ix_tup (pv 9) (pe_int) (fun _ _ => rfl)) (pa_cons (pe_int) (pa_nil))))))
      (pss_cons (ps_if (pt_cmpR op_notNI (pv 7) (pe_non) (nomark _)) (pss_one (ps_expr (pe_bm PySem.F.plainAttrs_list PySem.F.slot_list_append PySem.F.type_list_append mt_append (pe_ix ix_tup (C8.pe_mt0 (ok_SlotRing_oldest c X0 G) hr (by decide) (pv 0)) (pe_int) (fun _ _ => rfl)) (pa_cons (pe_int) (pa_nil))))) (pss_nil))
      (pss_one (ps_ret (pe_cmpR (op_eqD hr.units) (C8.pe_mt0 (ok_SlotRing_buffers c X0 G) hr (by decide) (pv 0)) (pe_op op_cat (pe_lc (own := [("_law_slot", 9)]) (g := gName 9) (tt := tYes) (te := tOp (rIxT K) (tVar 9) (tC (.int 0))) rfl sc__law_same.nd (pi_list (pv 5)) (blkOk_by (own := [("_law_slot", 9)]) (N := n__law_same) (sc := defScope s__law_same) (by decide +kernel)) (fun _ _ _ _ _ => pg_name (i := 9) sc__law_same.nd rfl (by first | exact Or.inl rfl | exact Or.inr rfl)) (fun _ _ _ _ _ => pts_nil) (fun _ _ _ _ _ => pe_ix ix_tup (pv 9) (pe_int) (fun _ _ => rfl))) (pv 3)) (nomark _)))))))))))))))
theorem ok_law {f : Addr} {fd : FuncData} (F : FunD K "law" "law" (defArgs s_law) (defBody s_law) (defScope s_law) [] [] f fd) : FnOk P w K mg base C8.CX0 7 f fd ["_law_script"] (sp_law K) := by
  haveI := tx_Ring c
  haveI := tx_SlotRing c
  haveI : XcI K "TickringsError" "RingError" "held" := ⟨xf_RingError c⟩
  refine fnX (t := t_law K) F sc_law ln_law (fun vs H Q E h => pu_law h) (fun cdv A outer s H E hr => ?_)
  exact pss_cons (ps_set (i := 1) sc_law.nd rfl (by first | exact Or.inl rfl | exact Or.inr rfl) (C8.pe_c (ok__law_state c X0 G) hr (by decide) rfl (pa_cons (pv 0) (pa_nil))))
      (pss_cons (ps_set (i := 2) sc_law.nd rfl (by first | exact Or.inl rfl | exact Or.inr rfl) (pe_op op_addI (pe_int) (C8.pe_c (ok__law_draw c X0 G) hr (by decide) rfl (pa_cons (pv 1) (pa_cons (pe_ix ix_list (pe_lst (pa_cons (pe_int) (pa_cons (pe_int) (pa_nil)))) (C8.pe_c (ok__law_draw c X0 G) hr (by decide) rfl (pa_cons (pv 1) (pa_cons (pe_int) (pa_nil)))) (fun _ _ => rfl)) (pa_nil))))))
      (pss_cons (ps_set (i := 3) sc_law.nd rfl (by first | exact Or.inl rfl | exact Or.inr rfl) (C8.pe_mk (ok_SlotRing_init c X0 G) hr (by decide) rfl (pa_cons (pv 2) (pa_nil))))
      (pss_cons (ps_set (i := 4) sc_law.nd rfl (by first | exact Or.inl rfl | exact Or.inr rfl) (pe_lst (pa_cons (pe_lst (pa_nil)) (pa_cons (pe_lst (pa_nil)) (pa_cons (pe_lst (pa_nil)) (pa_nil))))))
      (pss_cons (ps_for PassesOwn.never rfl (pi_range1 rfl (b_range c X0 G) (pa_cons (pe_op op_addI (pe_int) (C8.pe_c (ok__law_draw c X0 G) hr (by decide) rfl (pa_cons (pv 1) (pa_cons (pe_int) (pa_nil))))) (pa_nil))) (pg_name (i := 5) sc_law.nd rfl (by first | exact Or.inl rfl | exact Or.inr rfl)) (pss_cons (ps_set (i := 6) sc_law.nd rfl (by first | exact Or.inl rfl | exact Or.inr rfl) (pe_ix ix_list (pe_lst (pa_cons (pe_int) (pa_cons (pe_int) (pa_cons (pe_int) (pa_cons (pe_int) (pa_cons (pe_int) (pa_cons (pe_int) (pa_cons (pe_int) (pa_cons (pe_int) (pa_nil)))))))))) (C8.pe_c (ok__law_draw c X0 G) hr (by decide) rfl (pa_cons (pv 1) (pa_cons (pe_int) (pa_nil)))) (fun _ _ => rfl)))
      (pss_cons (ps_set (i := 7) sc_law.nd rfl (by first | exact Or.inl rfl | exact Or.inr rfl) (C8.pe_c (ok__law_draw c X0 G) hr (by decide) rfl (pa_cons (pv 1) (pa_cons (pe_int) (pa_nil)))))
      (pss_cons (ps_if (PW.pt (pw_and (pt_cmpR op_eq (pv 6) (pe_int) (nomark _)) (pw_and1 (pt_cmpR op_eq (C8.pe_c (ok__law_draw c X0 G) hr (by decide) rfl (pa_cons (pv 1) (pa_cons (pe_int) (pa_nil)))) (pe_int) (nomark _))))) (pss_one (ps_set (i := 7) sc_law.nd rfl (by first | exact Or.inl rfl | exact Or.inr rfl) (pe_int))) (pss_nil))
      (pss_cons (ps_set (i := 8) sc_law.nd rfl (by first | exact Or.inl rfl | exact Or.inr rfl) (C8.pe_c (ok__law_plain c X0 G) hr (by decide) rfl (pa_cons (pv 4) (pa_cons (pv 2) (pa_cons (pv 6) (pa_cons (pv 7) (pa_nil)))))))
      (pss_one (ps_if (PW.pt (pw_or (pt_cmpR (op_neD hr.units) (C8.pe_c (ok__law_deed c X0 G) hr (by decide) rfl (pa_cons (pv 3) (pa_cons (pv 6) (pa_cons (pv 7) (pa_nil))))) (pv 8) (nomark _)) (pw_or1 (pt_not (pt_val (C8.pe_c (ok__law_same c X0 G) hr (by decide) rfl (pa_cons (pv 3) (pa_cons (pv 4) (pa_cons (pv 2) (pa_nil)))))))))) (pss_one (ps_ret (pe_bl))) (pss_nil))))))))
      (pss_one (ps_ret (pe_bl)))))))
end
theorem facts {P : Program} {w : World} {K : PySem.W.Frag} {h : Heap} {mg : Str → Option Value} {f : Addr} (X : K.In h) (G : h.Ns mainGlobals mg) (hfa : mg ("law" : Str) = some (.ref f)) (c : SaysX xcs fa fn K) :
    ∃ fd : FuncData, (∀ (s : Shared) (v : Value), BindsTo s fd ⟨[v], []⟩ [("_law_script", v)]) ∧ ∀ base : Heap, K.In base → base.Ns mainGlobals mg → FnOk P w K mg base C8.CX0 7 f fd ["_law_script"] (sp_law K) := by
  obtain ⟨fd, F⟩ := c.def_ 24 (d := d_law) rfl
  have e := hfa.symm.trans (He.glo_ok X G (c.fact 5 (f := .glo "law") rfl))
  cases e
  have b := FunD.bindsA (ps := ["_law_script"]) F fun _ _ _ _ _ _ us hl => match us, hl with | [_], _ => rfl
  exact ⟨fd, fun s v => b s [v] rfl, fun base _ _ => ok_law c X G F⟩
end SL
open PySem PySem.W PySem.Calls PyProof.Rows
theorem row : PySem.Challenge.rw_tickrings_k05_rings_of_slots.Holds := by
  w_on; o_law
  refine HandSHeadRun.head_any (r := OpenLaw.row PySem.Challenge.rw_tickrings_k05_rings_of_slots) (q := view (OpenLaw.row PySem.Challenge.rw_tickrings_k05_rings_of_slots).prog [13]) (H := SL.hk) (ob := SL.obS) (M := 30000) (loose := SL.loose) (d := HandSHeadRun.topDef (OpenLaw.row PySem.Challenge.rw_tickrings_k05_rings_of_slots).prog 13) (kwd := []) SL.obS_eq
    (by kernel_rfl) (fun s => by kernel_rfl) SL.run (by kernel_rfl) (by kernel_rfl) (by kernel_rfl) (by rfl) (by first | assumption | decide +kernel) (by decide +kernel) ⟨rfl, rfl, rfl, rfl, rfl, by decide +kernel⟩ ?hw ?hc
  case hw => w_witness2
  case hc =>
    refine L2.walk_ofE (l := PySem.Challenge.rw_tickrings_k05_rings_of_slots) (n := 63) (k := 7) (x := "_law_script") (CX := C8.CX0) rfl (by decide) (by kernel_rfl) ⟨rfl, by decide, by decide⟩ ?F (fun _ _ _ _ z => z)
    intro w mg fa h Y G hmg0
    obtain ⟨K, KX, c⟩ := Y
    have hmg : mg ("law" : PySem.Str) = some (.ref fa) := by
      have e : (HandSHeadRun.topDef (OpenLaw.row PySem.Challenge.rw_tickrings_k05_rings_of_slots).prog 13).name = ("law" : PySem.Str) := by kernel_rfl
      rw [← e]
      exact hmg0
    obtain ⟨fd, hb, hF⟩ := SL.facts (P := (PySem.Challenge.rw_tickrings_k05_rings_of_slots).prog) (w := w) KX G hmg c
    exact ⟨K, fd, SL.sp_law K, KX, hb, fun H a ns hl _ hS => ⟨a, ns, rfl, hl, hS, fun _ => rfl⟩, hF⟩
theorem PySem.Challenge.cw_tickrings_k05_rings_of_slots_holds : PySem.Challenge.rw_tickrings_k05_rings_of_slots.Holds := by
  exact row
end
