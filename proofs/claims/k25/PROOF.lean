import PyProof.Rows.All
import Wide.All
import OpenK.AllK
import Wide.FinOn
import HandS.ForMost
import HandS.More
import HandS.Wide
import HandS.SortInts
import HandS.IsInst
import HandS.Style
import HandS.Flow
import HandS.Defaults
import HandS.Conv
import HandS.SetFor
import HandS.EndBits
import HandS.HeadEnd
import HandS.Head0
import HandS.Head1
import HandS.Head2
import HandS.HeadHook1
import HandS.HeadHook2
import PySem.Challenge.RW_lentloft_k25_two_pools_again
set_option Elab.async false
set_option linter.all false
set_option maxRecDepth 100000
set_option maxHeartbeats 4000000
namespace Lo
open PySem PySem.Spec PyProof.Rows L2

/-! ### what is known of the tracked heap: cells that are owned (true), cells that are shared for good (false) -/
abbrev Gh := Addr → Option (HO × Bool)
abbrev Asn := Gh → Prop
def Sub (g G : Gh) : Prop := ∀ a x, g a = some x → G a = some x
def Apart (g h : Gh) : Prop := ∀ a x y, g a = some x → h a = some y → x.2 = false ∧ y.2 = false
def Stars : List Asn → Asn
  | [], _ => True
  | A :: L, G => ∃ g h, Sub g G ∧ Sub h G ∧ Apart g h ∧ A g ∧ Stars L h
def Fits (G : Gh) (H : Hp) : Prop := ∀ a o b, G a = some (o, b) → H a = some o
def Sep (L : List Asn) (H : Hp) : Prop := ∃ G, Fits G H ∧ Stars L G
inductive Pull : List Asn → Asn → List Asn → Prop
  | here {A : Asn} {L : List Asn} : Pull (A :: L) A L
  | there {A B : Asn} {L L' : List Asn} : Pull L A L' → Pull (B :: L) A (B :: L')

theorem Sub.refl (g : Gh) : Sub g g := fun _ _ h => h
theorem Sub.trans {a b c : Gh} (h : Sub a b) (k : Sub b c) : Sub a c := fun x y z => k x y (h x y z)
theorem Apart.symm {g h : Gh} (x : Apart g h) : Apart h g := fun a u v e f => (x a v u f e).symm
theorem Apart.sub {g h g' h' : Gh} (x : Apart g h) (a : Sub g' g) (b : Sub h' h) : Apart g' h' := fun c u v e f => x c u v (a _ _ e) (b _ _ f)
theorem Stars.mono : ∀ {L : List Asn} {g G : Gh}, Stars L g → Sub g G → Stars L G
  | [], _, _, _, _ => True.intro
  | _ :: _, _, _, ⟨a, b, s1, s2, ap, x, y⟩, h => ⟨a, b, s1.trans h, s2.trans h, ap, x, y⟩
def uni (g h : Gh) : Gh := fun a => match g a with
  | some x => some x
  | none => h a
theorem uni_l {g h : Gh} : Sub g (uni g h) := fun a x e => by
  show (match g a with | some x => some x | none => h a) = some x
  rw [e]
theorem uni_r {g h G : Gh} (a : Sub g G) (b : Sub h G) : Sub h (uni g h) := fun c x e => by
  show (match g c with | some x => some x | none => h c) = some x
  cases q : g c with
  | none => exact e
  | some y =>
    have e1 := a _ _ q
    have e2 := b _ _ e
    rw [e1] at e2
    exact e2
theorem uni_of {g h : Gh} {a : Addr} {x : HO × Bool} (e : uni g h a = some x) : g a = some x ∨ h a = some x := by
  have e : (match g a with | some x => some x | none => h a) = some x := e
  cases q : g a with
  | none => rw [q] at e; exact .inr e
  | some y => rw [q] at e; exact .inl e
theorem uni_sub {g h G : Gh} (a : Sub g G) (b : Sub h G) : Sub (uni g h) G := fun c x e => by
  rcases uni_of e with e | e
  · exact a _ _ e
  · exact b _ _ e
theorem uni_apart {g h k : Gh} (a : Apart k g) (b : Apart k h) : Apart k (uni g h) := fun c x y e f => by
  rcases uni_of f with f | f
  · exact a _ _ _ e f
  · exact b _ _ _ e f
theorem Stars.pull : ∀ {L : List Asn} {A : Asn} {L' : List Asn}, Pull L A L' → ∀ {G : Gh}, Stars L G → Stars (A :: L') G
  | _, _, _, .here, _, s => s
  | _, _, _, .there p, G, ⟨g, h, s1, s2, ap, b, s⟩ => by
    obtain ⟨g', h', t1, t2, ap', a, s'⟩ := Stars.pull p s
    exact ⟨g', uni g h', t1.trans s2, uni_sub s1 (t2.trans s2), uni_apart (ap.symm.sub t1 (Sub.refl g)) ap', a, g, h', uni_l, uni_r s1 (t2.trans s2), ap.sub (Sub.refl g) t2, b, s'⟩
theorem Stars.push : ∀ {L : List Asn} {A : Asn} {L' : List Asn}, Pull L A L' → ∀ {G : Gh}, Stars (A :: L') G → Stars L G
  | _, _, _, .here, _, s => s
  | _, _, _, .there p, G, ⟨g', u, t1, t2, ap, a, g, h', s1, s2, ap', b, s'⟩ => by
    exact ⟨g, uni g' h', s1.trans t2, uni_sub t1 (s2.trans t2), uni_apart (ap.symm.sub s1 (Sub.refl g')) ap', b, Stars.push p ⟨g', h', uni_l, uni_r t1 (s2.trans t2), ap.sub (Sub.refl g') s2, a, s'⟩⟩

section
variable {L L' M : List Asn} {A B C : Asn} {H : Hp} {p q : Addr} {o u : HO}
theorem Sep.pull (m : Pull L A L') (S : Sep L H) : Sep (A :: L') H := by
  obtain ⟨G, f, s⟩ := S
  exact ⟨G, f, Stars.pull m s⟩
theorem Sep.push (m : Pull L A L') (S : Sep (A :: L') H) : Sep L H := by
  obtain ⟨G, f, s⟩ := S
  exact ⟨G, f, Stars.push m s⟩
theorem Sep.tail (S : Sep (A :: L) H) : Sep L H := by
  obtain ⟨G, f, g, h, s1, s2, ap, a, s⟩ := S
  exact ⟨G, f, s.mono s2⟩
theorem Sep.conv (S : Sep (A :: L) H) (h : ∀ g, A g → B g) : Sep (B :: L) H := by
  obtain ⟨G, f, g, k, s1, s2, ap, a, s⟩ := S
  exact ⟨G, f, g, k, s1, s2, ap, h g a, s⟩
theorem Sep.push3 {M : List Asn} (m : Pull M C L) (S : Sep (A :: B :: M) H) : Sep (A :: B :: C :: L) H := by
  obtain ⟨G, f, g, k, s1, s2, ap, a, g', k', t1, t2, ap', b, s⟩ := S
  exact ⟨G, f, g, k, s1, s2, ap, a, g', k', t1, t2, ap', b, Stars.pull m s⟩
/-- the second one is let go -/
theorem Sep.drop2 (S : Sep (A :: B :: L) H) : Sep (A :: L) H := by
  obtain ⟨G, f, g, k, s1, s2, ap, a, g', k', t1, t2, ap', b, s⟩ := S
  exact ⟨G, f, g, k, s1, s2, ap, a, s.mono t2⟩
theorem Sep.nil (H : Hp) : Sep [] H := ⟨fun _ => none, fun _ _ _ h => (by cases h), True.intro⟩
/-- an existential, a fact -/
theorem Sep.ex {α : Type} {F : α → Asn} (S : Sep ((fun g => ∃ x, F x g) :: L) H) : ∃ x, Sep (F x :: L) H := by
  obtain ⟨G, f, g, k, s1, s2, ap, ⟨x, a⟩, s⟩ := S
  exact ⟨x, G, f, g, k, s1, s2, ap, a, s⟩
theorem Sep.fact {P : Prop} (S : Sep ((fun g => P ∧ A g) :: L) H) : P ∧ Sep (A :: L) H := by
  obtain ⟨G, f, g, k, s1, s2, ap, ⟨x, a⟩, s⟩ := S
  exact ⟨x, G, f, g, k, s1, s2, ap, a, s⟩
theorem Stars.split {M : List Asn} {G : Gh} (h : Stars (Stars M :: L) G) : Stars (M ++ L) G := by
  obtain ⟨g, k, s1, s2, ap, a, s⟩ := h
  induction M generalizing G g k with
  | nil => exact s.mono s2
  | cons A M ih =>
    obtain ⟨x, y, t1, t2, ap2, a, b⟩ := a
    exact ⟨x, uni y k, t1.trans s1, uni_sub (t2.trans s1) s2, uni_apart ap2 (ap.sub t1 (Sub.refl k)), a, ih y k uni_l (uni_r (t2.trans s1) s2) (ap.sub t2 (Sub.refl k)) b s⟩
theorem Stars.join {M : List Asn} {G : Gh} (h : Stars (M ++ L) G) : Stars (Stars M :: L) G := by
  induction M generalizing G with
  | nil => exact ⟨fun _ => none, G, fun _ _ z => (by cases z), Sub.refl G, fun _ _ _ z => (by cases z), True.intro, h⟩
  | cons A M ih =>
    obtain ⟨g, h, s1, s2, ap, a, s⟩ := h
    obtain ⟨x, y, t1, t2, ap2, m, l⟩ := ih s
    exact ⟨uni g x, y, uni_sub s1 (t1.trans s2), t2.trans s2, fun c e f i j => (uni_apart (ap.symm.sub t2 (Sub.refl g)) ap2.symm c f e j i).symm, ⟨g, x, uni_l, uni_r s1 (t1.trans s2), ap.sub (Sub.refl g) t1, a, m⟩, l⟩
theorem Sep.split {M : List Asn} (S : Sep (Stars M :: L) H) : Sep (M ++ L) H := by
  obtain ⟨G, f, s⟩ := S
  exact ⟨G, f, Stars.split s⟩
theorem Sep.join {M : List Asn} (S : Sep (M ++ L) H) : Sep (Stars M :: L) H := by
  obtain ⟨G, f, s⟩ := S
  exact ⟨G, f, Stars.join s⟩
/-- under a head -/
theorem Sep.join1 {M : List Asn} (S : Sep (A :: (M ++ L)) H) : Sep (A :: Stars M :: L) H := by
  obtain ⟨G, f, g, h, s1, s2, ap, a, s⟩ := S
  exact ⟨G, f, g, h, s1, s2, ap, a, Stars.join s⟩
theorem Sep.conv1 (S : Sep (A :: B :: L) H) (h : ∀ g, B g → C g) : Sep (A :: C :: L) H := by
  obtain ⟨G, f, g, k, s1, s2, ap, a, g', k', t1, t2, ap', b, s⟩ := S
  exact ⟨G, f, g, k, s1, s2, ap, a, g', k', t1, t2, ap', h g' b, s⟩
theorem Sep.push2 {M : List Asn} (m : Pull M B L) (S : Sep (A :: M) H) : Sep (A :: B :: L) H := by
  obtain ⟨G, f, g, h, s1, s2, ap, a, s⟩ := S
  exact ⟨G, f, g, h, s1, s2, ap, a, Stars.pull m s⟩
theorem Sep.none_free (S : Sep L H) (h : H p = none) : ∀ G, Fits G H → G p = none := fun G f => by
  cases e : G p with
  | none => rfl
  | some x => rw [f p x.1 x.2 e] at h; cases h
end

/-! ### the same, in another order, some let go -/
inductive Perms : List Asn → List Asn → Prop
  | refl {L : List Asn} : Perms L L
  | cons {L L' M : List Asn} {A : Asn} : Pull L A L' → Perms L' M → Perms L (A :: M)
  | skip {L M : List Asn} {A : Asn} : Perms L M → Perms (A :: L) M
theorem Perms.nilS {L : List Asn} : Perms L [] := by
  induction L with
  | nil => exact .refl
  | cons A L ih => exact .skip ih
theorem Stars.perms : ∀ {L M : List Asn}, Perms L M → ∀ {G : Gh}, Stars L G → Stars M G
  | _, _, .refl, _, s => s
  | _, _, .cons m p, _, s => by
    obtain ⟨g, h, s1, s2, ap, a, s'⟩ := Stars.pull m s
    exact ⟨g, h, s1, s2, ap, a, Stars.perms p s'⟩
  | _, _, .skip p, _, ⟨_, _, _, s2, _, _, s'⟩ => (Stars.perms p s').mono s2
theorem Sep.perm {L M : List Asn} {H : Hp} (p : Perms L M) (S : Sep L H) : Sep M H := by
  obtain ⟨G, f, s⟩ := S
  exact ⟨G, f, Stars.perms p s⟩

/-! ### cells -/
def own (p : Addr) (o : HO) : Asn := fun g => g p = some (o, true)
/-- what is true of the shared cells -/
def shr (g : Gh) : Hp := fun a => match g a with
  | some (o, false) => some o
  | _ => none
def Sh (P : Hp → Prop) : Asn := fun g => P (shr g)
/-- stays where more is known -/
def Up (P : Hp → Prop) : Prop := ∀ H H' : Hp, (∀ a o, H a = some o → H' a = some o) → P H → P H'
theorem shr_of {g : Gh} {a : Addr} {o : HO} (h : shr g a = some o) : g a = some (o, false) := by
  have h : (match g a with | some (o, false) => some o | _ => none) = some o := h
  split at h
  · rename_i o' e
    rw [e, Option.some.inj h]
  · cases h
theorem shr_mk {g : Gh} {a : Addr} {o : HO} (h : g a = some (o, false)) : shr g a = some o := by
  show (match g a with | some (o, false) => some o | _ => none) = some o
  rw [h]
theorem shr_sub {g G : Gh} (s : Sub g G) : ∀ a o, shr g a = some o → shr G a = some o := fun a o h => shr_mk (s _ _ (shr_of h))

section
variable {L L' M : List Asn} {A B C : Asn} {H : Hp} {p q : Addr} {o u : HO} {P R : Hp → Prop}
theorem Sep.own (m : Pull L (own p o) L') (S : Sep L H) : H p = some o := by
  obtain ⟨G, f, g, h, s1, s2, ap, a, s⟩ := S.pull m
  exact f _ _ _ (s1 _ _ a)
theorem Sep.sh (hp : Up P) (m : Pull L (Sh P) L') (S : Sep L H) : P H := by
  obtain ⟨G, f, g, h, s1, s2, ap, a, s⟩ := S.pull m
  exact hp _ _ (fun b o e => f _ _ _ (s1 _ _ (shr_of e))) a
/-- the owned object changes -/
theorem Sep.set (m : Pull L (Lo.own p o) L') (S : Sep L H) (u : HO) : Sep (Lo.own p u :: L') (upd H p u) := by
  obtain ⟨G, f, g, h, s1, s2, ap, a, s⟩ := S.pull m
  have a : g p = some (o, true) := a
  have hp : h p = none := by
    cases e : h p with
    | none => rfl
    | some x => exact absurd (ap p _ _ a e).1 (by simp)
  refine ⟨fun b => if b = p then some (u, true) else G b, fun b w k e => ?_, fun b => if b = p then some (u, true) else none, h, fun b x e => ?_, fun b x e => ?_, fun b x y e e' => ?_, ?_, s⟩
  · by_cases hb : b = p
    · subst hb
      simp only [if_pos rfl] at e
      rw [upd_same]
      injection e with e
      injection e with e1 e2
      rw [e1]
    · simp only [if_neg hb] at e
      rw [upd_ne hb]
      exact f _ _ _ e
  · by_cases hb : b = p
    · simp only [if_pos hb] at e ⊢
      exact e
    · simp only [if_neg hb] at e
      cases e
  · have hb : b ≠ p := fun z => by rw [z, hp] at e; cases e
    show (if b = p then _ else _) = _
    rw [if_neg hb]
    exact s2 _ _ e
  · have hb : b ≠ p := fun z => by rw [z, hp] at e'; cases e'
    simp only [if_neg hb] at e
    cases e
  · show (if p = p then _ else _) = _
    rw [if_pos rfl]
/-- a new object -/
theorem Sep.new (S : Sep L H) (n : H p = none) (o : HO) : Sep (Lo.own p o :: L) (upd H p o) := by
  obtain ⟨G, f, s⟩ := id S
  have hp : G p = none := S.none_free n G f
  refine ⟨fun b => if b = p then some (o, true) else G b, fun b w k e => ?_, fun b => if b = p then some (o, true) else none, G, fun b x e => ?_, fun b x e => ?_, fun b x y e e' => ?_, ?_, s⟩
  · by_cases hb : b = p
    · subst hb
      simp only [if_pos rfl] at e
      rw [upd_same]
      injection e with e
      injection e with e1 e2
      rw [e1]
    · simp only [if_neg hb] at e
      rw [upd_ne hb]
      exact f _ _ _ e
  · by_cases hb : b = p
    · simp only [if_pos hb] at e ⊢
      exact e
    · simp only [if_neg hb] at e
      cases e
  · have hb : b ≠ p := fun z => by rw [z, hp] at e; cases e
    show (if b = p then _ else _) = _
    rw [if_neg hb]
    exact e
  · have hb : b ≠ p := fun z => by rw [z, hp] at e'; cases e'
    simp only [if_neg hb] at e
    cases e
  · show (if p = p then _ else _) = _
    rw [if_pos rfl]
/-- an owned part is shared from now on: g' is g with its cells shared -/
def frz (g : Gh) : Gh := fun a => (g a).map fun x => (x.1, false)
theorem frz_of {g : Gh} {a : Addr} {x : HO × Bool} (e : frz g a = some x) : ∃ y, g a = some y ∧ x = (y.1, false) := by
  have e : (g a).map (fun x => (x.1, false)) = some x := e
  cases q : g a with
  | none => rw [q] at e; cases e
  | some y => rw [q] at e; exact ⟨y, rfl, (Option.some.inj e).symm⟩
theorem frz_mk {g : Gh} {a : Addr} {y : HO × Bool} (e : g a = some y) : frz g a = some (y.1, false) := by
  show (g a).map _ = _
  rw [e]
  rfl
theorem Sep.share (S : Sep (A :: L) H) (h : ∀ g, A g → B (frz g)) : Sep (B :: L) H := by
  obtain ⟨G, f, g, k, s1, s2, ap, a, s⟩ := S
  have kf : ∀ b x y, g b = some x → k b = some y → y = (x.1, false) := fun b x y e e' => by
    have e1 := s1 _ _ e
    have e2 := s2 _ _ e'
    rw [e1] at e2
    have e3 := (ap b x y e e').1
    injection e2 with e2
    rw [← e2, ← e3]
  refine ⟨uni (frz g) k, fun b o w e => ?_, frz g, k, uni_l, fun b y e => ?_, fun b x y e e' => ?_, h g a, s⟩
  · rcases uni_of e with e | e
    · obtain ⟨y, e1, e2⟩ := frz_of e
      injection e2 with e2 e3
      rw [e2]
      exact f b y.1 y.2 (s1 _ _ e1)
    · exact f _ _ _ (s2 _ _ e)
  · show (match frz g b with | some x => some x | none => k b) = some y
    cases q : frz g b with
    | none => exact e
    | some x =>
      obtain ⟨z, e1, e2⟩ := frz_of q
      rw [kf b z y e1 e, e2]
  · obtain ⟨z, e1, e2⟩ := frz_of e
    rw [kf b z y e1 e', e2]
    exact ⟨rfl, rfl⟩
theorem Sep.dup (S : Sep (Sh P :: L) H) : Sep (Sh P :: Sh P :: L) H := by
  obtain ⟨G, f, g, k, s1, s2, ap, a, s⟩ := S
  refine ⟨G, f, fun b => (shr g b).map fun o => (o, false), G, fun b x e => ?_, Sub.refl G, fun b x y e e' => ?_, ?_, g, k, s1, s2, ap, a, s⟩
  · have e : (shr g b).map (fun o => (o, false)) = some x := e
    cases q : shr g b with
    | none => rw [q] at e; cases e
    | some o =>
      rw [q] at e
      rw [← Option.some.inj e]
      exact s1 _ _ (shr_of q)
  · have e : (shr g b).map (fun o => (o, false)) = some x := e
    cases q : shr g b with
    | none => rw [q] at e; cases e
    | some o =>
      rw [q] at e
      have e1 := s1 _ _ (shr_of q)
      rw [e'] at e1
      rw [← Option.some.inj e, Option.some.inj e1]
      exact ⟨rfl, rfl⟩
  · show P (shr fun b => (shr g b).map fun o => (o, false))
    have e : (shr fun b => (shr g b).map fun o => (o, false)) = shr g := by
      funext b
      show (match (shr g b).map (fun o => (o, false)) with | some (o, false) => some o | _ => none) = shr g b
      cases shr g b <;> rfl
    rw [e]
    exact a
/-- a fact that needs no cell -/
theorem Sep.add (S : Sep L H) (h : A fun _ => none) : Sep (A :: L) H := by
  obtain ⟨G, f, s⟩ := S
  exact ⟨G, f, fun _ => none, G, fun _ _ z => (by cases z), Sub.refl G, fun _ _ _ z => (by cases z), h, s⟩
/-- two shared facts are one -/
theorem Sep.and (hp : Up P) (hr : Up R) (S : Sep (Sh P :: Sh R :: L) H) : Sep (Sh (fun H => P H ∧ R H) :: L) H := by
  obtain ⟨G, f, g, k, s1, s2, ap, a, g', k', s1', s2', ap', a', s⟩ := S
  refine ⟨G, f, uni g g', k', uni_sub s1 (s1'.trans s2), s2'.trans s2, fun c x y e e' => (uni_apart (ap.sub (Sub.refl g) s2').symm ap'.symm c y x e' e).symm, ⟨?_, ?_⟩, s⟩
  · exact hp _ _ (shr_sub uni_l) a
  · exact hr _ _ (shr_sub (uni_r s1 (s1'.trans s2))) a'
/-- an owned cell meets no other one -/
theorem Sep.ne (m : Pull L (Lo.own p o) L') (m2 : Pull L' (Lo.own q u) M) (S : Sep L H) : p ≠ q := by
  obtain ⟨G, f, g, h, s1, s2, ap, a, s⟩ := S.pull m
  obtain ⟨g', h', t1, t2, ap', a', s'⟩ := Stars.pull m2 s
  intro e
  subst e
  exact absurd (ap p _ _ a (t1 _ _ a')).1 (by simp)
end
end Lo

set_option Elab.async false
set_option linter.all false
set_option maxRecDepth 100000
set_option maxHeartbeats 4000000
namespace Lo
open PySem PySem.Spec PyProof.Rows L2

/-! ### constants -/
instance decPow (i j : Int) : Decidable (CPow i j) := by unfold CPow; exact inferInstance
section
variable {X : Cx}
theorem pe_pow {i j n : Int} {a b : Nat} {p1 p2 pos : Pos} (h : CPow i j ∧ i ^ j.toNat = n) : PE X (.BinOp (.Constant (.int i) a p1) .Pow (.Constant (.int j) b p2) pos) (tC (.int n)) := by
  refine ⟨fun pins s σ H Q I q => ?_⟩
  refine (pe_op op_pow pe_int pe_int).run pins s σ H Q I ⟨i, j, rfl, rfl, h.1, ?_⟩
  show Q (.int (i ^ j.toNat)) H
  rw [h.2]
  exact q
/-- a module's constant -/
def Gc (mg : Str → Option Value) (x : Str) (v : V) : Prop := ∃ u, mg x = some u ∧ RelV v u
theorem pe_gc {x : Str} {v : V} {pos : Pos} (hg : Gl X x) (h : Gc X.mg x v) (hd : (x == ("__debug__" : Str)) = false := by decide) : PE X (.Name x pos) (tC v) := by
  obtain ⟨u, e, r⟩ := h
  exact pe_glob hg e r hd
/-- xs[j], j from 0 on, read ahead of a store -/
def rGetL (K : PySem.W.Frag) : V → V → Hp → VK → Prop := fun x y H Q => ∃ (p : Addr) (xs : List V) (j : Int) (v : V), x = .ref p ∧ y = .int j ∧ 0 ≤ j ∧ SqL K H p xs ∧ xs[j.toNat]? = some v ∧ Q v H
theorem get_list : PGet X (rGetL X.K) := by
  intro pins s σ H o i ov iv Q I ro ri h
  obtain ⟨p, xs, j, v, rfl, rfl, h0, hq, he, q⟩ := h
  cases ro
  obtain ⟨t, rfl⟩ := ri
  obtain ⟨its, r, pl, hz⟩ := I.list hq
  obtain ⟨w, ew, rw'⟩ := r.get he
  have hl := r.length
  have hn := line63
  have hj := (List.getElem?_eq_some_iff.mp he).1
  exact wpAny_getItem_list pl.isList h0 (by omega) (by simpa using ew) ⟨v, H, I, rw', q⟩
theorem ps_augL {o i e : Expr} {to ti te : TE} {tip : TIp} {op : Operator} {tpos pos : Pos} (ho : PE X o to) (hi : PE X i ti) (he : PE X e te) (hp : PIp X op tip)
    (ha : ∀ ov iv new, augStore i ov iv new = (do holding [new, ov, iv] (setItem ov iv new); release [new, ov, iv] []; pure .next) := by intros; rfl) :
    PS X (.AugAssign (.Subscript o i tpos) op e pos) (tAugS to ti te (rGetL X.K) tip rSetL) := ps_augS ho hi get_list he hp set_list ha
end

/-! ### defs by their names, as their callers need them -/
section
variable (P : Program) (w : World) (K : PySem.W.Frag) (mg : Str → Option Value) (base : Heap) (CX : CXT)
def GFn (x : Str) (k : Nat) (ps : List Str) (sp : Sp) : Prop := ∃ f fd, FnOk P w K mg base CX k f fd ps sp ∧ mg x = some (.ref f) ∧ PySem.W.keepIn K (.ref f) = true ∧ Binds K fd ps []
def GMt (C : Addr) (m : Str) (k : Nat) (ps : List Str) (sp : Sp) : Prop := ∃ f fd, FnOk P w K mg base CX k f fd ps sp ∧ Meth K C m f ∧ Binds K fd ps []
def GMk (x : Str) (C : Addr) (k : Nat) (ps : List Str) (sp : Sp) : Prop := ∃ f fd, FnOk P w K mg base CX k f fd ps sp ∧ Mk K C f ∧ mg x = some (.ref C) ∧ Binds K fd ps []
end
section
variable {P : Program} {w : World} {K : PySem.W.Frag} {mg : Str → Option Value} {base : Heap} {x qual : Str} {params : Arguments} {body : List Stmt} {scope : Scope} {dvs : List V} {kws : List (Str × V)} {f : Addr} {fd : FuncData}
/-- a def that lets nothing out -/
theorem ok0 {N ps : List Str} {k : Nat} {sp : Sp} (F : FunD K x qual params body scope dvs kws f fd) (S : FnScope N ps scope) (len : ∀ vs H Q E, sp vs H Q E → vs.length = ps.length)
    (hbody : ∀ (cdv : Value) (A : Around) (outer : List Env) (s : Shared) (H : Hp) (vs : List V) (Q : VK) (E : XK), Room k (A.deeper (envOfC qual scope s.heap.objs.size f cdv)) → sp vs H Q E →
      ∃ t, PSs (cxOf CX0 P w K mg base N qual scope f cdv A outer s H E).nox body t ∧ t { nx := fun _ H' => Q .non H', rt := Q } (start N vs) H) : FnOk P w K mg base CX0 (k + 1) f fd ps sp :=
  F.ok S len fun cdv A outer s H vs Q E hr hsp =>
    let ⟨t, h, q⟩ := hbody cdv A outer s H vs Q E hr hsp
    ⟨t, PSs.nox h, q⟩
end

/-! ### sorted(d): ints, any number of keys -/
def rSortedDI : List V → Hp → VK → Prop := fun xs H Q => ∃ (a : Addr) (kvs : List (Key × V)) (ks : List Int), xs = [.ref a] ∧ Rd H a (.dK kvs) ∧ kvs.map (·.1) = ks.map Sum.inl ∧
    ∀ (ys : List Int) (p : Addr), ys.Perm ks → ys.Pairwise (· ≤ ·) → H p = none → Q (.ref p) (upd H p (.lst (ys.map V.int)))
section
variable {X : Cx}
theorem cr_sortedDI (hcalm : X.calm = true) : CallR X (.builtin "sorted") rSortedDI := by
  intro pins s σ H xs us Q I r q
  obtain ⟨a, kvs, ks, ex, hd, hks, q⟩ := q
  subst ex
  obtain ⟨u, eu, rx⟩ := vals1 r
  subst eu
  cases rx
  obtain ⟨z, lo, vs, rel, dd⟩ := dk_rd I.hok hd
  obtain ⟨ep, hat⟩ := dd.dictAt
  have hkeys : vs.map (·.1) = ks.map Sum.inl := rel.keys.symm.trans hks
  have hl : vs.length = ks.length := by
    have e := congrArg List.length hkeys
    rw [List.length_map, List.length_map] at e
    exact e
  have hlk : kvs.length = ks.length := by
    have e := congrArg List.length hks
    rw [List.length_map, List.length_map] at e
    exact e
  have h16 : vs.length ≤ sizeLine := by rw [hl, ← hlk]; exact z
  refine Calls.call_function_entry PyProof.Rows.kind_sorted PyProof.Rows.plain_sorted PyProof.Rows.entry_sorted (PyProof.Rows.args_sorted1 _) ?_
  unfold Builtin.«sorted»
  refine wpAny_bind (m := checkCount "sorted" 1 1 _) (wpAny_pure ?_)
  refine wpAny_bind (PySem.W.kdu_collect (A := X.A.in1) (PySem.W.kdl_dict (knd := mixKind X.prog X.w) (kvs := vs) (ep := ep) lo) (I.ok.hd hcalm) hat h16 fun h' tk acc hk hacc => ?_)
  have hal : acc.toList.length = ks.length := by rw [Array.length_toList, hacc.1, hl]
  have hS : IntsAre acc.toList ks := ints_each hal fun j v e => by
    obtain ⟨k, x, e1, e2⟩ := hacc.2 j v (by rw [← Array.getElem?_toList]; exact e)
    have e3 : (vs.map (·.1))[j]? = some k := by rw [List.getElem?_map, e1]; rfl
    rw [hkeys, List.getElem?_map] at e3
    cases e4 : ks[j]? with
    | none => rw [e4] at e3; cases e3
    | some y =>
      rw [e4] at e3
      have e5 : Sum.inl y = k := Option.some.inj e3
      subst e5
      rcases keyIs_shape (show keyIs (Sum.inl y) v = true from e2) with ⟨i, t, ek, ev⟩ | ⟨z, t, ek, ev⟩
      · cases ek
        exact ⟨y, t, rfl, ev⟩
      · cases ek
  have I1 : Inv X pins σ H { s with heap := h', toks := tk } := I.kept hk
  have hsz : acc.toList.length ≤ sizeLine := by rw [hal, ← hl]; exact h16
  refine wpAny_bind (wpAny_newList ?_ hsz)
  have hoL : (h'.push (seqObj "list" acc.toList.toArray 0)).get? h'.objs.size = some (seqObj "list" acc.toList.toArray 0) := Heap.get?_push_size _ rfl
  show wpAny _ _ _ _ _ { s with heap := h'.push (seqObj "list" acc.toList.toArray 0), toks := tk }
  refine wpAny_bind (wpAny_holding (wpAny_call_entry PyProof.Rows.slot_list_sort ⟨_, hoL, rfl⟩ PyProof.Rows.entry_list_sort
    (SrtO.list_sort_ord (s := { s with heap := h'.push (seqObj "list" acc.toList.toArray 0), toks := tk }) SrtO.swo_int hoL hsz (fun h2 => SrtO.ints_sortable hS h2) fun out g1 g2 => ⟨.none, rfl, ?_⟩) (PyProof.Rows.args_list_sort _)))
  obtain ⟨k1, k2, k3⟩ := SrtO.ints_out hS g1 g2
  obtain ⟨e', he'⟩ := PyProof.Rows.sortedHeap_at (vs := acc.toList) (out := out.toArray) hoL
  have hlen : ((out.map SrtO.iv).map V.int).length ≤ sizeLine := by
    rw [List.length_map, k2.length_eq, ← hal]
    exact hsz
  refine wpAny_pure ⟨_, rfl, .ref h'.objs.size, upd H h'.objs.size (.lst ((out.map SrtO.iv).map V.int)), I1.laid (t' := tk) (fun b u e => ?_) (Nat.le_refl _) ⟨hlen, out, e', vals_of_ints k1, he'⟩, rfl, q _ _ k2 k3 (I1.hok.fresh (Nat.le_refl _))⟩
  have hb : b < h'.objs.size := Heap.lt_size e
  rw [PyProof.Rows.sortedHeap_old (Nat.ne_of_lt hb) (by rw [Heap.size_push]; exact Nat.lt_succ_of_lt hb)]
  exact Heap.get?_push_of_some _ e
end

/-! ### readings by names -/
def rLenSeq (K : PySem.W.Frag) : List V → Hp → VK → Prop := fun xs H Q => ∃ p ys, xs = [.ref p] ∧ (SqL K H p ys ∨ SqT K H p ys) ∧ Q (.int ys.length) H
def rLenStr : List V → Hp → VK → Prop := fun xs H Q => ∃ z, xs = [.str z] ∧ z.length ≤ sizeLine ∧ Q (.int z.length) H
def rLenD : List V → Hp → VK → Prop := fun xs H Q => ∃ a kvs, xs = [V.ref a] ∧ H a = some (.dK kvs) ∧ Q (.int kvs.length) H
def rListOf (K : PySem.W.Frag) : List V → Hp → VK → Prop := fun xs H Q => ∃ p ys, xs = [.ref p] ∧ (SqL K H p ys ∨ SqT K H p ys) ∧ ∀ l, H l = none → Q (.ref l) (upd H l (.lst ys))
def rTupleOf (K : PySem.W.Frag) : List V → Hp → VK → Prop := fun xs H Q => ∃ p ys, xs = [.ref p] ∧ ((SqL K H p ys ∧ ∀ l, H l = none → Q (.ref l) (upd H l (.tup ys))) ∨ (SqT K H p ys ∧ Q (.ref p) H))
def rAbs : List V → Hp → VK → Prop := fun xs H Q => ∃ i, xs = [.int i] ∧ Q (.int (if i < 0 then -i else i)) H
def rMax2 : List V → Hp → VK → Prop := fun xs H Q => ∃ i j, xs = [.int i, .int j] ∧ Q (.int (if j > i then j else i)) H
def rMin2 : List V → Hp → VK → Prop := fun xs H Q => ∃ i j, xs = [.int i, .int j] ∧ Q (.int (if j < i then j else i)) H
def rInt1 : List V → Hp → VK → Prop := fun xs H Q => (∃ i, xs = [.int i] ∧ Q (.int i) H) ∨ ∃ k, xs = [.bl k] ∧ Q (.int (if k then 1 else 0)) H
def rIsN : R2 := fun x y H Q => y = .non ∧ Q (.bl (decide (x = .non))) H
def rNotN : R2 := fun x y H Q => y = .non ∧ Q (.bl (!decide (x = .non))) H
def rAddS : R2 := fun x y H Q => ∃ i j, x = .str i ∧ y = .str j ∧ i.length + j.length ≤ sizeLine ∧ Q (.str (i ++ j)) H
def rInSign : R2 := fun x y H Q => ∃ (c : Nat) (z : Str), x = .str ⟨#[c]⟩ ∧ y = .str z ∧ Q (.bl (decide (c ∈ z.cps.toList))) H
def rNotInSign : R2 := fun x y H Q => ∃ (c : Nat) (z : Str), x = .str ⟨#[c]⟩ ∧ y = .str z ∧ Q (.bl (!decide (c ∈ z.cps.toList))) H
def rIsRef : R2 := fun x y H Q => ∃ a b oa ob, x = .ref a ∧ y = .ref b ∧ H a = some oa ∧ isObj oa = true ∧ H b = some ob ∧ isObj ob = true ∧ Q (.bl (decide (a = b))) H
def rIsNotRef : R2 := fun x y H Q => ∃ a b oa ob, x = .ref a ∧ y = .ref b ∧ H a = some oa ∧ isObj oa = true ∧ H b = some ob ∧ isObj ob = true ∧ Q (.bl (!decide (a = b))) H
section
variable {X : Cx}
theorem n_len_seq : CallR X (.builtin "len") (rLenSeq X.K) := call_len_seq
theorem n_len_str : CallR X (.builtin "len") rLenStr := call_len_str
theorem n_lenD : CallR X (.builtin "len") rLenD := call_lenD
theorem n_list_of : CallR X (.type "list") (rListOf X.K) := call_list_of
theorem n_tuple_of : CallR X (.type "tuple") (rTupleOf X.K) := call_tuple_of
theorem n_abs : CallR X (.builtin "abs") rAbs := call_abs
theorem n_max2 (hc : X.calm = true) : CallR X (.builtin "max") rMax2 := call_max2 hc
theorem n_min2 (hc : X.calm = true) : CallR X (.builtin "min") rMin2 := call_min2 hc
theorem n_int1 : CallR X (.type "int") rInt1 := call_int1
theorem n_isN : OpR X (compareOp .Is) rIsN := op_isN
theorem n_notN : OpR X (compareOp .IsNot) rNotN := op_notN
theorem n_add_str : OpR X (binaryOp .Add) rAddS := op_add_str
theorem n_in_sign : OpR X (compareOp .In) rInSign := op_in_sign
theorem n_notIn_sign : OpR X (compareOp .NotIn) rNotInSign := op_notIn_sign
theorem n_is_ref : OpR X (compareOp .Is) rIsRef := op_is_ref
theorem n_isnot_ref : OpR X (compareOp .IsNot) rIsNotRef := op_isnot_ref
end
end Lo

set_option Elab.async false
set_option linter.all false
set_option maxRecDepth 100000
set_option maxHeartbeats 4000000
namespace Lo
open PySem PySem.Spec L2

/-! ### steps of readings -/
section
variable {K : PySem.W.Frag} {D : Ends} {σ : L2.St} {H : Hp} {Q : VK} {ta tb te tl : TE} {t u : TS} {c d : TT} {i : Nat} {v x y : V} {R : Bool → Hp → Prop} {RA : List V → Hp → Prop} {tA : TA} {L L' M : List Asn}
theorem w_seq (h : t { D with nx := u D } σ H) : tSeq t u D σ H := h
theorem w_next (h : D.nx σ H) : tNext D σ H := h
theorem w_asg (h : te σ H fun x H1 => D.nx (σ.set i (some x)) H1) : tAsg te (gName i) D σ H := h
theorem w_asgG {g : TG} (h : te σ H fun x H1 => g x σ H1 D.nx) : tAsg te g D σ H := h
theorem w_drop (h : te σ H fun _ H1 => D.nx σ H1) : tDrop te D σ H := h
theorem w_ret (h : te σ H D.rt) : tRet te D σ H := h
theorem w_retN (h : D.rt .non H) : tRetN D σ H := h
theorem w_brk (h : D.bk σ H) : tBreak D σ H := h
theorem w_cont (h : D.ct σ H) : tCont D σ H := h
theorem w_ifS (h : c σ H fun b H1 => if b = true then t D σ H1 else u D σ H1) : tIfS c t u D σ H := h
theorem w_var (e : σ[i]? = some (some v)) (q : Q v H) : tVar i σ H Q := ⟨v, e, q⟩
theorem w_c (q : Q v H) : tC v σ H Q := q
theorem w_op {r : R2} (h : ta σ H fun x H1 => tb σ H1 fun y H2 => r x y H2 Q) : tOp r ta tb σ H Q := h
theorem w_un {r : V → Hp → VK → Prop} (h : ta σ H fun x H1 => r x H1 Q) : tUn r ta σ H Q := h
def kTest (R : Bool → Hp → Prop) (x : V) (H : Hp) : Prop := ∃ k, x = .bl k ∧ R k H
theorem w_test (h : te σ H fun x H' => kTest R x H') : tTest te σ H R := h
theorem w_B (h : te σ H fun x H' => kTest R x H') : tB te σ H R := h
theorem w_k {b : Bool} (h : R b H) : kTest R (.bl b) H := ⟨b, rfl, h⟩
theorem w_and (h : c σ H fun b H1 => if b = true then d σ H1 R else R false H1) : tAnd c d σ H R := h
theorem w_or (h : c σ H fun b H1 => if b = true then R true H1 else d σ H1 R) : tOr c d σ H R := h
theorem w_not (h : c σ H fun b H1 => R (!b) H1) : tNot c σ H R := h
theorem w_andV (h : ta σ H fun x H1 => kTest (fun c H1 => if c = true then tb σ H1 Q else Q (.bl false) H1) x H1) : tAndV ta tb σ H Q := h
theorem w_orV (h : ta σ H fun x H1 => kTest (fun c H1 => if c = true then Q (.bl true) H1 else tb σ H1 Q) x H1) : tOrV ta tb σ H Q := h
theorem w_notV (h : ta σ H fun x H1 => kTest (fun c H1 => Q (.bl (!c)) H1) x H1) : tNotV ta σ H Q := h
theorem w_ifE (h : c σ H fun b H1 => if b = true then ta σ H1 Q else tb σ H1 Q) : tIf c ta tb σ H Q := h
theorem w_nil (h : RA [] H) : tNil σ H RA := h
theorem w_cons (h : ta σ H fun x H1 => tA σ H1 fun xs H2 => RA (x :: xs) H2) : tCons ta tA σ H RA := h
theorem w_cb {r : List V → Hp → VK → Prop} (h : tA σ H fun vs H1 => r vs H1 Q) : tCB r tA σ H Q := h
theorem w_call {sp : Sp} {E : XK} (h : tA σ H fun vs H1 => sp (vs ++ []) H1 Q E) : tCall sp [] E tA σ H Q := h
def kTruth (K : PySem.W.Frag) (R : Bool → Hp → Prop) (x : V) (H' : Hp) : Prop := ∃ k, TruV K x H' k ∧ R k H'
theorem w_truth (h : ta σ H fun x H' => kTruth K R x H') : (fun σ H Q => ta σ H fun x H' => ∃ k, TruV K x H' k ∧ Q k H' : TT) σ H R := h
theorem w_true {A B : Prop} (h : A) : if true = true then A else B := h
theorem w_false {A B : Prop} (h : B) : if false = true then A else B := iteF h
theorem w_nt {A B : Prop} (h : B) : if (!true) = true then A else B := iteF h
theorem w_nf {A B : Prop} (h : A) : if (!false) = true then A else B := iteT h
/-- a test once, with what is known of its answer -/
theorem w_testB {tt : TT} (Φ : Bool → Prop) (M : List Asn) (h2 : ∀ R' : Bool → Hp → Prop, (∀ bb H', Φ bb → Sep M H' → R' bb H') → tt σ H R') (h1 : ∀ bb H', Φ bb → Sep M H' → R bb H') : tt σ H R := h2 R h1
theorem w_valB {te : TE} (Φ : V → Prop) (M : List Asn) (h2 : ∀ Q' : VK, (∀ v H', Φ v → Sep M H' → Q' v H') → te σ H Q') (h1 : ∀ v H', Φ v → Sep M H' → Q v H') : te σ H Q := h2 Q h1
/-- a test by its proposition -/
theorem w_dec {p : Prop} [Decidable p] {A B : Prop} (h1 : p → A) (h2 : ¬ p → B) : if decide p = true then A else B := by
  by_cases h : p
  · rw [if_pos (decide_eq_true h)]; exact h1 h
  · rw [if_neg (by simp [h])]; exact h2 h
theorem w_decN {p : Prop} [Decidable p] {A B : Prop} (h1 : ¬ p → A) (h2 : p → B) : if (!decide p) = true then A else B := by
  by_cases h : p
  · rw [if_neg (by simp [h])]; exact h2 h
  · rw [if_pos (by simp [h])]; exact h1 h
theorem w_bool {b : Bool} {A B : Prop} (h1 : b = true → A) (h2 : b = false → B) : if b = true then A else B := by
  cases b with
  | true => exact h1 rfl
  | false => exact iteF (h2 rfl)
/-! ints -/
theorem w_rI0 {g : Int → Int → V} {a b : Int} (q : Q (g a b) H) : rI0 g (.int a) (.int b) H Q := ⟨a, b, rfl, rfl, q⟩
theorem w_rI {C : Int → Int → Prop} {g : Int → Int → V} {a b : Int} (c : C a b) (q : Q (g a b) H) : rI C g (.int a) (.int b) H Q := ⟨a, b, rfl, rfl, c, q⟩
theorem w_ipI {f : Int → Int → Int} {a b : Int} (q : Q (.int (f a b)) H) : ipI f (.int a) (.int b) H Q := ⟨a, b, rfl, rfl, q⟩
theorem w_eqI {a b : Int} (q : Q (.bl (decide (a = b))) H) : rEq (.int a) (.int b) H Q := by
  refine ⟨rfl, ?_⟩
  have e : decide (V.int a = V.int b) = decide (a = b) := by simp
  rw [e]; exact q
theorem w_neI {a b : Int} (q : Q (.bl (!decide (a = b))) H) : rNe (.int a) (.int b) H Q := by
  refine ⟨rfl, ?_⟩
  have e : decide (V.int a = V.int b) = decide (a = b) := by simp
  rw [e]; exact q
theorem w_eqB {a b : Bool} (q : Q (.bl (decide (a = b))) H) : rEq (.bl a) (.bl b) H Q := by
  refine ⟨rfl, ?_⟩
  have e : decide (V.bl a = V.bl b) = decide (a = b) := by simp
  rw [e]; exact q
theorem w_neB {a b : Bool} (q : Q (.bl (!decide (a = b))) H) : rNe (.bl a) (.bl b) H Q := by
  refine ⟨rfl, ?_⟩
  have e : decide (V.bl a = V.bl b) = decide (a = b) := by simp
  rw [e]; exact q
theorem w_eqS {a b : Str} (q : Q (.bl (decide (a = b))) H) : rEq (.str a) (.str b) H Q := by
  refine ⟨rfl, ?_⟩
  have e : decide (V.str a = V.str b) = decide (a = b) := by simp
  rw [e]; exact q
/-- is None -/
theorem w_isN {x : V} (q : Q (.bl (decide (x = .non))) H) : rIsN x .non H Q := ⟨rfl, q⟩
theorem w_notN {x : V} (q : Q (.bl (!decide (x = .non))) H) : rNotN x .non H Q := ⟨rfl, q⟩
theorem w_max2 {a b : Int} (q : Q (.int (if b > a then b else a)) H) : rMax2 [.int a, .int b] H Q := ⟨a, b, rfl, q⟩
theorem w_min2 {a b : Int} (q : Q (.int (if b < a then b else a)) H) : rMin2 [.int a, .int b] H Q := ⟨a, b, rfl, q⟩
theorem w_abs {a : Int} (q : Q (.int (if a < 0 then -a else a)) H) : rAbs [.int a] H Q := ⟨a, rfl, q⟩
theorem w_int1B {k : Bool} (q : Q (.int (if k then 1 else 0)) H) : rInt1 [.bl k] H Q := .inr ⟨k, rfl, q⟩
theorem w_chain {r r' : R2} {tc : TE} (h : ta σ H fun x H1 => tb σ H1 fun y H2 => r x y H2 fun z H3 => kTest (fun k H3 => if k = true then tc σ H3 (fun w H4 => r' y w H4 Q) else Q (.bl false) H3) z H3) : tChain r r' ta tb tc σ H Q := h
end

/-! ### lists, tuples -/
section
variable {K : PySem.W.Frag} {D : Ends} {σ : L2.St} {H : Hp} {Q : VK} {L L' M : List Asn} {A B : Asn} {p q : Addr} {xs ys : List V} {v : V} {o : HO} {P R : Hp → Prop}
def ro (p : Addr) (o : HO) : Asn := Sh fun H => H p = some o
theorem up_at : Up fun H => H p = some o := fun _ _ h e => h _ _ e
theorem Sep.ro (m : Pull L (Lo.ro p o) L') (S : Sep L H) : H p = some o := S.sh up_at m
theorem Sep.sql (m : Pull L (Lo.own p (.lst xs)) L') (S : Sep L H) : SqL K H p xs := .inl (.inl (S.own m))
theorem Sep.sqlR (m : Pull L (Lo.ro p (.lst xs)) L') (S : Sep L H) : SqL K H p xs := .inl (.inl (S.ro m))
theorem Sep.sqt (m : Pull L (Lo.ro p (.tup xs)) L') (S : Sep L H) : SqT K H p xs := .inl (.inl (S.ro m))
/-- a new object that is shared -/
theorem Sep.newR (S : Sep L H) (n : H p = none) (o : HO) : Sep (Lo.ro p o :: L) (upd H p o) :=
  (S.new n o).share fun g a => shr_mk (show frz g p = some (o, false) from frz_mk a)
def kNewL (xs : List V) (H : Hp) (Q : VK) : Prop := xs.length ≤ sizeLine ∧ ∀ p, H p = none → Q (.ref p) (upd H p (.lst xs))
def kNewT (xs : List V) (H : Hp) (Q : VK) : Prop := xs.length ≤ sizeLine ∧ ∀ p, H p = none → Q (.ref p) (upd H p (.tup xs))
theorem w_lst {t : TA} (h : t σ H fun xs H1 => kNewL xs H1 Q) : tLst t σ H Q := h
theorem w_tup {t : TA} (h : t σ H fun xs H1 => kNewT xs H1 Q) : tTup t σ H Q := h
/-- a new list -/
theorem w_newL (S : Sep L H) (hz : xs.length ≤ sizeLine) (h : ∀ p H', Sep (own p (.lst xs) :: L) H' → Q (.ref p) H') : kNewL xs H Q :=
  ⟨hz, fun p n => h p _ (S.new n _)⟩
theorem w_newT (S : Sep L H) (hz : xs.length ≤ sizeLine) (h : ∀ p H', Sep (ro p (.tup xs) :: L) H' → Q (.ref p) H') : kNewT xs H Q :=
  ⟨hz, fun p n => h p _ (S.newR n _)⟩
theorem w_newD (S : Sep L H) (h : ∀ p H', Sep (own p (.dK []) :: L) H' → Q (.ref p) H') : tDNewK σ H Q := fun p n => h p _ (S.new n _)
theorem w_ixL {j : Int} (hs : SqL K H p xs) (h : atI xs j = some v) (k : Q v H) : rIxL K (.ref p) (.int j) H Q := ⟨p, xs, j, v, rfl, rfl, hs, h, k⟩
theorem w_ixT {j : Int} (hs : SqT K H p xs) (h : atI xs j = some v) (k : Q v H) : rIxT K (.ref p) (.int j) H Q := ⟨p, xs, j, v, rfl, rfl, hs, h, k⟩
theorem w_lenL (hs : SqL K H p xs) (k : Q (.int xs.length) H) : rLenSeq K [.ref p] H Q := ⟨p, xs, rfl, .inl hs, k⟩
theorem w_lenT (hs : SqT K H p xs) (k : Q (.int xs.length) H) : rLenSeq K [.ref p] H Q := ⟨p, xs, rfl, .inr hs, k⟩
theorem w_lenD {kvs : List (Key × V)} (m : Pull L (own p (.dK kvs)) L') (S : Sep L H) (k : Q (.int kvs.length) H) : rLenD [.ref p] H Q := ⟨p, kvs, rfl, S.own m, k⟩
/-- xs[j] = v -/
theorem w_setL {j : Int} {k : Nat} {Qh : Hp → Prop} (m : Pull L (own p (.lst xs)) L') (S : Sep L H) (hj : ixN xs.length j = some k) (h : ∀ H', Sep (own p (.lst (xs.set k v)) :: L') H' → Qh H') : rSetL (.ref p) (.int j) v H Qh :=
  ⟨p, xs, j, k, rfl, rfl, S.own m, hj, h _ (S.set m _)⟩
theorem w_gsub {to ti : TE} {ts : TSet} {Q : L2.St → Hp → Prop} (h : to σ H fun o H1 => ti σ H1 fun i H2 => ts o i v H2 fun H3 => Q σ H3) : gSub to ti ts v σ H Q := h
theorem w_app (m : Pull L (own p (.lst xs)) L') (S : Sep L H) (hz : xs.length < sizeLine) (h : ∀ H', Sep (own p (.lst (xs ++ [v])) :: L') H' → Q .non H') : rAppend (.ref p) [v] H Q :=
  ⟨p, xs, v, rfl, rfl, S.own m, hz, h _ (S.set m _)⟩
theorem w_isBl {a b : Bool} (q : Q (.bl (decide (a = b))) H) : rIsB (.bl a) (.bl b) H Q := ⟨a, b, rfl, rfl, q⟩
theorem w_notBl {a b : Bool} (q : Q (.bl (!decide (a = b))) H) : rNotB (.bl a) (.bl b) H Q := ⟨a, b, rfl, rfl, q⟩
theorem w_rev (m : Pull L (own p (.lst xs)) L') (S : Sep L H) (h : ∀ H', Sep (own p (.lst xs.reverse) :: L') H' → Q .non H') : rReverse (.ref p) [] H Q :=
  ⟨p, xs, rfl, rfl, S.own m, h _ (S.set m _)⟩
theorem w_gTup {n : Nat} {t : TGs} {R : L2.St → Hp → Prop} (hs : SqT K H p xs) (hl : xs.length = n) (h : t xs σ H R) : gTup K n t (.ref p) σ H R := ⟨p, xs, rfl, hs, hl, h⟩
theorem w_gCons {t : TG} {u : TGs} {R : L2.St → Hp → Prop} (h : t v σ H fun σ1 H1 => u xs σ1 H1 R) : gCons t u (v :: xs) σ H R := ⟨v, xs, rfl, h⟩
theorem w_gNil {R : L2.St → Hp → Prop} (h : R σ H) : gNil [] σ H R := ⟨rfl, h⟩
/-- a list that nobody changes any more -/
theorem Sep.freeze {o : HO} (S : Sep (Lo.own p o :: L) H) : Sep (Lo.ro p o :: L) H := S.share fun g a => shr_mk (frz_mk (show g p = some (o, true) from a))
theorem w_bm {T : String} {r : V → List V → Hp → VK → Prop} {to : TE} {t : TA} (h : to σ H fun x H1 => tyV K T x H1 ∧ t σ H1 fun xs H2 => r x xs H2 Q) : tBM K T r to t σ H Q := h
theorem w_bm0 {T : String} {r : V → List V → Hp → VK → Prop} {to : TE} (h : to σ H fun x H1 => tyV K T x H1 ∧ r x [] H1 Q) : tBM0 K T r to σ H Q := h
theorem w_tyL {G : Prop} (hs : SqL K H p xs) (h : G) : tyV K "list" (.ref p) H ∧ G := ⟨Or.inl ⟨rfl, _, hs⟩, h⟩
/-- a + b -/
theorem w_cat (S : Sep L H) (e1 : H p = some (.lst xs)) (e2 : H q = some (.lst ys)) (hz : xs.length + ys.length ≤ sizeLine) (h : ∀ r H', Sep (own r (.lst (xs ++ ys)) :: L) H' → Q (.ref r) H') : rCat (.ref p) (.ref q) H Q :=
  ⟨p, q, xs, ys, rfl, rfl, e1, e2, hz, fun r n => h r _ (S.new n _)⟩
theorem w_slL {lo hi : Option Int} (S : Sep L H) (hs : SqL K H p xs) (h : ∀ r H', Sep (own r (.lst (cutV xs lo hi)) :: L) H' → Q (.ref r) H') : rSlL K (.ref p) lo hi H Q :=
  ⟨p, xs, rfl, hs, fun r n => h r _ (S.new n _)⟩
theorem w_listOf (S : Sep L H) (hs : SqL K H p xs) (h : ∀ r H', Sep (own r (.lst xs) :: L) H' → Q (.ref r) H') : rListOf K [.ref p] H Q := ⟨p, xs, rfl, .inl hs, fun r n => h r _ (S.new n _)⟩
/-! dicts with int keys -/
def rDget : R2 := fun x y H2 Q => ∃ a v, x = .ref a ∧ DGet H2 a y (some v) ∧ Q v H2
theorem w_dget {td ty : TE} (h : td σ H fun x H1 => ty σ H1 fun y H2 => rDget x y H2 Q) : tDGet td ty σ H Q := h
theorem w_dgetI {kvs : List (Key × V)} {j : Int} (e : H p = some (.dK kvs)) (hv : valV kvs (.inl j) = some v) (k : Q v H) : rDget (.ref p) (.int j) H Q :=
  ⟨p, v, rfl, .inl ⟨kvs, .inl j, .inl e, rfl, hv.symm⟩, k⟩
def rDin : R2 := fun y x H2 Q => ∃ a o, x = .ref a ∧ DGet H2 a y o ∧ Q (.bl o.isSome) H2
def rDnin : R2 := fun y x H2 Q => ∃ a o, x = .ref a ∧ DGet H2 a y o ∧ Q (.bl (!o.isSome)) H2
theorem w_din {td ty : TE} (h : ty σ H fun y H1 => td σ H1 fun x H2 => rDin y x H2 Q) : tDIn ty td σ H Q := h
theorem w_dnotin {td ty : TE} (h : ty σ H fun y H1 => td σ H1 fun x H2 => rDnin y x H2 Q) : tDNotIn ty td σ H Q := h
theorem w_dinI {kvs : List (Key × V)} {j : Int} (e : H p = some (.dK kvs)) (k : Q (.bl (valV kvs (.inl j)).isSome) H) : rDin (.int j) (.ref p) H Q :=
  ⟨p, _, rfl, .inl ⟨kvs, .inl j, .inl e, rfl, rfl⟩, k⟩
theorem w_dninI {kvs : List (Key × V)} {j : Int} (e : H p = some (.dK kvs)) (k : Q (.bl (!(valV kvs (.inl j)).isSome)) H) : rDnin (.int j) (.ref p) H Q :=
  ⟨p, _, rfl, .inl ⟨kvs, .inl j, .inl e, rfl, rfl⟩, k⟩
def kDput (x y v : V) (H : Hp) (G : Hp → Prop) : Prop := ∃ a H4, x = .ref a ∧ DPut H a y v H4 ∧ G H4
theorem w_dput {td ty tv : TE} (h : tv σ H fun v H1 => td σ H1 fun x H2 => ty σ H2 fun y H3 => kDput x y v H3 (D.nx σ)) : sDPut td ty tv D σ H := h
theorem w_dputI {kvs : List (Key × V)} {j : Int} {G : Hp → Prop} (m : Pull L (own p (.dK kvs)) L') (S : Sep L H) (hz : kvs.length < sizeLine) (h : ∀ H', Sep (own p (.dK (putK kvs (.inl j) v)) :: L') H' → G H') :
    kDput (.ref p) (.int j) v H G := ⟨p, _, rfl, .inl ⟨kvs, .inl j, S.own m, rfl, hz, rfl⟩, h _ (S.set m _)⟩
def kDpop (a : Addr) (y : V) (H2 : Hp) (Q : VK) : Prop := ∃ kvs k v, H2 a = some (.dK kvs) ∧ y = kV k ∧ valV kvs k = some v ∧ Q v (upd H2 a (.dK (dropK kvs k)))
theorem w_dpop {td ty : TE} (h : td σ H fun x H1 => ∃ a, x = .ref a ∧ IsD H1 a ∧ ty σ H1 fun y H2 => kDpop a y H2 Q) : tDPop1 td ty σ H Q := h
theorem w_isD {kvs : List (Key × V)} {G : Addr → Prop} (e : H p = some (.dK kvs)) (h : G p) : ∃ a, V.ref p = .ref a ∧ IsD H a ∧ G a := ⟨p, rfl, .inl ⟨kvs, .inl e⟩, h⟩
theorem w_dpopI {kvs : List (Key × V)} {j : Int} (m : Pull L (own p (.dK kvs)) L') (S : Sep L H) (hv : valV kvs (.inl j) = some v) (h : ∀ H', Sep (own p (.dK (dropK kvs (.inl j))) :: L') H' → Q v H') :
    kDpop p (.int j) H Q := ⟨kvs, .inl j, v, S.own m, rfl, hv, h _ (S.set m _)⟩
theorem w_sortedDI {kvs : List (Key × V)} {ks : List Int} (m : Pull L (own p (.dK kvs)) L') (S : Sep L H) (hk : kvs.map (·.1) = ks.map Sum.inl) (h : ∀ (ys : List Int) r H', ys.Perm ks → ys.Pairwise (· ≤ ·) → Sep (own r (.lst (ys.map V.int)) :: L) H' → Q (.ref r) H') :
    rSortedDI [.ref p] H Q := ⟨p, kvs, ks, rfl, .inl (S.own m), hk, fun ys r h1 h2 n => h ys r _ h1 h2 (S.new n _)⟩
theorem w_sortedI {ns : List Int} (hs : SqL K H p (ns.map V.int)) (S : Sep L H) (h : ∀ (ys : List Int) r H', ys.Perm ns → ys.Pairwise (· ≤ ·) → Sep (own r (.lst (ys.map V.int)) :: L) H' → Q (.ref r) H') :
    rSortedI K [.ref p] H Q := ⟨p, ns, rfl, hs, fun ys r h1 h2 n => h ys r _ h1 h2 (S.new n _)⟩
/-! instances -/
theorem up_sql {a : Addr} {xs : List V} : Up fun H => SqL K H a xs := fun H H' h s => by
  rcases s with (s | ⟨o, s⟩) | s
  · exact .inl (.inl (h _ _ s))
  · exact .inl (.inr ⟨o, h _ _ s⟩)
  · exact .inr s
/-- at a law's start all that there is may be read -/
theorem Sep.start (h : P H) : Sep [Sh P] H := by
  refine ⟨fun a => (H a).map fun o => (o, false), fun a o b e => ?_, fun a => (H a).map fun o => (o, false), fun _ => none, Sub.refl _, fun _ _ z => (by cases z), fun _ _ _ _ z => (by cases z), ?_, True.intro⟩
  · have e : (H a).map (fun o => (o, false)) = some (o, b) := e
    cases q : H a with
    | none => rw [q] at e; cases e
    | some u =>
      rw [q] at e
      injection e with e
      injection e with e1 e2
      rw [e1]
  · show P (shr fun a => (H a).map fun o => (o, false))
    have e : (shr fun a => (H a).map fun o => (o, false)) = H := by
      funext b
      show (match (H b).map (fun o => (o, false)) with | some (o, false) => some o | _ => none) = H b
      cases H b <;> rfl
    rw [e]
    exact h
def inst (p C : Addr) (fs : List (Str × V)) : Asn := fun g => ∃ dx, g p = some (.ins C dx fs, true)
theorem Sep.inst {C : Addr} {fs : List (Str × V)} (m : Pull L (Lo.inst p C fs) L') (S : Sep L H) : ∃ dx, H p = some (.ins C dx fs) := by
  obtain ⟨dx, S'⟩ := (S.pull m).ex
  exact ⟨dx, Sep.own .here S'⟩
def kFld (K : PySem.W.Frag) (f : Str) (x : V) (H1 : Hp) (Q : VK) : Prop := ∃ a C dx fs v, x = .ref a ∧ H1 a = some (.ins C dx fs) ∧ Cls K C ∧ NoAttr K C f ∧ fs.lookup f = some v ∧ Q v H1
theorem w_fldT {ta : TE} {f : Str} (h : ta σ H fun x H1 => kFld K f x H1 Q) : tFld K ta f σ H Q := h
theorem w_fld {C : Addr} {fs : List (Str × V)} {f : Str} (m : Pull L (Lo.inst p C fs) L') (S : Sep L H) (hc : Cls K C) (hn : NoAttr K C f) (hl : fs.lookup f = some v) (k : Q v H) :
    kFld K f (.ref p) H Q := by
  obtain ⟨dx, e⟩ := S.inst m
  exact ⟨p, C, dx, fs, v, rfl, e, hc, hn, hl, k⟩
def kSFld (K : PySem.W.Frag) (f : Str) (x y : V) (H2 : Hp) (G : Hp → Prop) : Prop := ∃ a C dx fs, x = .ref a ∧ H2 a = some (.ins C dx fs) ∧ Cls K C ∧ NoAttr K C f ∧ fs.length < 1000 ∧ G (upd H2 a (.ins C dx (putF f y fs)))
theorem w_sfldT {ta tv : TE} {f : Str} (h : tv σ H fun y H1 => ta σ H1 fun x H2 => kSFld K f x y H2 (D.nx σ)) : sFld K ta tv f D σ H := h
theorem w_sfld {C : Addr} {fs : List (Str × V)} {f : Str} {y : V} {G : Hp → Prop} (m : Pull L (Lo.inst p C fs) L') (S : Sep L H) (hc : Cls K C) (hn : NoAttr K C f) (hz : fs.length < 1000) (h : ∀ H', Sep (Lo.inst p C (putF f y fs) :: L') H' → G H') :
    kSFld K f (.ref p) y H G := by
  obtain ⟨dx, S'⟩ := (S.pull m).ex
  exact ⟨p, C, dx, fs, rfl, Sep.own .here S', hc, hn, hz, h _ ((S'.set .here _).conv fun g a => ⟨dx, a⟩)⟩
theorem w_meth {C : Addr} {mn : Str} {sp : Sp} {E : XK} {ta : TE} {t : TA} (h : ta σ H fun x H1 => ∃ a dx fs, x = .ref a ∧ H1 a = some (.ins C dx fs) ∧ fs.lookup mn = none ∧ t σ H1 fun vs H2 => sp (x :: (vs ++ [])) H2 Q E) : tMeth C mn sp [] E ta t σ H Q := h
theorem w_recv {C : Addr} {fs : List (Str × V)} {mn : Str} {G : Prop} (m : Pull L (Lo.inst p C fs) L') (S : Sep L H) (hl : fs.lookup mn = none) (h : G) : ∃ a dx fs, V.ref p = .ref a ∧ H a = some (.ins C dx fs) ∧ fs.lookup mn = none ∧ G := by
  obtain ⟨dx, e⟩ := S.inst m
  exact ⟨p, dx, fs, rfl, e, hl, h⟩
def kMake (C : Addr) (H1 : Hp) (G : V → Hp → Prop) : Prop := ∀ x dx, H1 x = none → H1 dx = none → dx ≠ x → G (.ref x) (upd (upd H1 dx (.own x)) x (.ins C dx []))
theorem w_make {C : Addr} {sp : Sp} {E : XK} {t : TA} (h : t σ H fun vs H1 => kMake C H1 fun x H2 => sp (x :: (vs ++ [])) H2 (fun v H2 => v = .non ∧ Q x H2) E) : tMake C sp [] E t σ H Q := h
theorem w_made {C : Addr} {G : V → Hp → Prop} (S : Sep L H) (h : ∀ x H', Sep (Lo.inst x C [] :: L) H' → G (.ref x) H') : kMake C H G := fun x dx nx nd ne =>
  h x _ (((S.new nd (.own x)).tail.new (by rw [upd_ne (fun z => ne z.symm)]; exact nx) _).conv fun g a => ⟨dx, a⟩)
end

/-! ### loops -/
section
variable {K : PySem.W.Frag} {D : Ends} {σ : L2.St} {H : Hp} {Q : VK} {tb : TS} {g : TG}
def kFor (g : TG) (tb : TS) (D : Ends) (σ : L2.St) (J : It) (H1 : Hp) : Prop := ∃ W : Nat → Nat → L2.St → Hp → Prop, (∃ m, W 0 m σ H1) ∧ ∀ i m σ H, W i m σ H →
      (J.stop i H ∧ D.nx σ H) ∨ (J.go i H ∧ ∃ N : L2.St → Hp → Prop, (∀ σ' H', N σ' H' → ∃ m', m' < m ∧ W (i + 1) m' σ' H') ∧ ∀ x H', J.yld i H x H' → g x σ H' fun σ2 H2 => tb { D with nx := N, ct := N, bk := D.nx } σ2 H2)
theorem w_for {wi : TI} (h : wi σ H fun J H1 => kFor g tb D σ J H1) : tFor wi g tb D σ H := h
theorem w_forL {a : Addr} {xs : List V} (Pv : Nat → L2.St → Hp → Prop) (h0 : Pv 0 σ H) (hl : ∀ i σ H, i ≤ xs.length → Pv i σ H → SqL K H a xs)
    (hs : ∀ i x σ H, xs[i]? = some x → Pv i σ H → g x σ H fun σ2 H2 => tb { D with nx := Pv (i + 1), ct := Pv (i + 1), bk := D.nx } σ2 H2) (hd : ∀ σ H, Pv xs.length σ H → D.nx σ H) : kFor g tb D σ (Itl K a) H := for_list Pv h0 hl hs hd
theorem w_forT {a : Addr} {xs : List V} (Pv : Nat → L2.St → Hp → Prop) (h0 : Pv 0 σ H) (hl : ∀ i σ H, i ≤ xs.length → Pv i σ H → SqT K H a xs)
    (hs : ∀ i x σ H, xs[i]? = some x → Pv i σ H → g x σ H fun σ2 H2 => tb { D with nx := Pv (i + 1), ct := Pv (i + 1), bk := D.nx } σ2 H2) (hd : ∀ σ H, Pv xs.length σ H → D.nx σ H) : kFor g tb D σ (Itt K a) H := for_tup Pv h0 hl hs hd
theorem w_forR {lo : Int} {n : Nat} (Pv : Nat → L2.St → Hp → Prop) (h0 : Pv 0 σ H)
    (hs : ∀ i σ H, i < n → Pv i σ H → g (.int (lo + i)) σ H fun σ2 H2 => tb { D with nx := Pv (i + 1), ct := Pv (i + 1), bk := D.nx } σ2 H2) (hd : ∀ σ H, Pv n σ H → D.nx σ H) : kFor g tb D σ (Itr lo n) H := for_range Pv h0 hs hd
theorem w_gName {i : Nat} {v : V} {R : L2.St → Hp → Prop} (h : R (σ.set i (some v)) H) : gName i v σ H R := h
def kIL (K : PySem.W.Frag) (R : It → Hp → Prop) (x : V) (H1 : Hp) : Prop := ∃ a, x = .ref a ∧ (∃ xs, SqL K H1 a xs) ∧ R (Itl K a) H1
def kIT (K : PySem.W.Frag) (R : It → Hp → Prop) (x : V) (H1 : Hp) : Prop := ∃ a, x = .ref a ∧ (∃ xs, SqT K H1 a xs) ∧ R (Itt K a) H1
theorem w_iList {tl : TE} {R : It → Hp → Prop} (h : tl σ H fun x H1 => kIL K R x H1) : iList K tl σ H R := h
theorem w_iTup {tl : TE} {R : It → Hp → Prop} (h : tl σ H fun x H1 => kIT K R x H1) : iTup K tl σ H R := h
theorem w_list {p : Addr} {xs : List V} {R : It → Hp → Prop} (hs : SqL K H p xs) (h : R (Itl K p) H) : kIL K R (.ref p) H := ⟨p, rfl, ⟨xs, hs⟩, h⟩
theorem w_tupI {p : Addr} {xs : List V} {R : It → Hp → Prop} (hs : SqT K H p xs) (h : R (Itt K p) H) : kIT K R (.ref p) H := ⟨p, rfl, ⟨xs, hs⟩, h⟩
def kR1 (R : It → Hp → Prop) (vs : List V) (H1 : Hp) : Prop := ∃ j : Int, vs = [.int j] ∧ -(2 ^ 62) ≤ j ∧ j < 2 ^ 62 ∧ R (Itr 0 j.toNat) H1
def kR2 (R : It → Hp → Prop) (vs : List V) (H1 : Hp) : Prop := ∃ i j : Int, vs = [.int i, .int j] ∧ (-(2 ^ 62) ≤ i ∧ i < 2 ^ 62 ∧ -(2 ^ 62) ≤ j ∧ j < 2 ^ 62) ∧ R (Itr i (j - i).toNat) H1
theorem w_rng1 {ta : TA} {R : It → Hp → Prop} (h : ta σ H fun vs H1 => kR1 R vs H1) : iRng1 ta σ H R := h
theorem w_rng2 {ta : TA} {R : It → Hp → Prop} (h : ta σ H fun vs H1 => kR2 R vs H1) : iRng2 ta σ H R := h
theorem w_r1 {j : Int} {R : It → Hp → Prop} (h1 : -4611686018427387904 ≤ j) (h2 : j < 4611686018427387904) (h : R (Itr 0 j.toNat) H) : kR1 R [.int j] H := ⟨j, rfl, by omega, by omega, h⟩
theorem w_r2 {i j : Int} {R : It → Hp → Prop} (h1 : -4611686018427387904 ≤ i) (h2 : i < 4611686018427387904) (h3 : -4611686018427387904 ≤ j) (h4 : j < 4611686018427387904) (h : R (Itr i (j - i).toNat) H) : kR2 R [.int i, .int j] H := ⟨i, j, rfl, by omega, h⟩
/-- while c: the state Pv, a measure -/
theorem w_while {c : TT} (Pv : Nat → L2.St → Hp → Prop) (m0 : Nat) (h0 : Pv m0 σ H)
    (hs : ∀ m σ H, Pv m σ H → c σ H fun b H1 => if b = true then ∃ N : L2.St → Hp → Prop, (∀ σ' H', N σ' H' → ∃ m', m' < m ∧ Pv m' σ' H') ∧ tb { D with nx := N, ct := N, bk := D.nx } σ H1 else D.nx σ H1) : tWhile c tb D σ H :=
  ⟨Pv, ⟨m0, h0⟩, hs⟩
end

/-! ### a statement, then the rest, with a word between them -/
section
variable {X : Cx}
def tCut (t u : TS) : TS := fun D σ H => ∃ Mid : L2.St → Hp → Prop, t { D with nx := Mid } σ H ∧ ∀ σ' H', Mid σ' H' → u D σ' H'
theorem pss_cut {st : Stmt} {rest : List Stmt} {t u : TS} (h1 : PS X st t) (h2 : PSs X rest u) : PSs X (st :: rest) (tCut t u) := by
  refine ⟨fun pins s σ H D I h => ?_⟩
  obtain ⟨Mid, hm, hu⟩ := h
  refine wpAny_execs_cons (thn (h1.run pins s σ H { D with nx := Mid } I hm) fun f s1 q => ?_)
  cases f with
  | next =>
    obtain ⟨σ', H', I', q⟩ := q
    exact h2.run pins s1 σ' H' D I' (hu σ' H' q)
  | ret v => exact q
  | brk => exact q
  | cont => exact q
theorem kOp {X : Cx} {f : Value → Value → Sem Value} {r : R2} (h : OpR X f r) : OpR X f r := h
theorem w_cut {t u : TS} {D : Ends} {σ : L2.St} {H : Hp} (Mid : L2.St → Hp → Prop) (h1 : t { D with nx := Mid } σ H) (h2 : ∀ σ' H', Mid σ' H' → u D σ' H') : tCut t u D σ H := ⟨Mid, h1, h2⟩
end
section
variable {l : PySem.W.OpenLaw} {n k : Nat} {q : Program} {loose : List PySem.Str} {XP : (PySem.Str → Option Value) → Heap → Prop} {YP : World → Heap → Prop} {d : DefRec} {CX : World → CXT} {x : PySem.Str}
/-- a law's end, the script's bits told -/
theorem walk_ofEB (hn : l.most = some n) (hn2 : n ≤ sizeLine) (hdf : d.params.defaults = []) (hr : Room k callerA)
    (F : ∀ (w : World) (mg : PySem.Str → Option Value) (fa : Addr) (h : Heap), YP w h → h.Ns mainGlobals mg → mg d.name = some (.ref fa) →
      ∃ (K : PySem.W.Frag) (fd : FuncData) (sp : Sp), K.In h ∧ (∀ (s : Shared) (u : Value), BindsTo s fd ⟨[u], []⟩ [(x, u)]) ∧
        (∀ (H : Hp) (a : Addr) (ns : List Int), ns.length ≤ n → (∀ z ∈ ns, Builtin.Int.intBits z ≤ 1048576) → Only H → SqL K H a (ns.map V.int) → sp [.ref a] H (fun v _ => v = .bl true) fun _ _ _ => False) ∧
        ∀ base : Heap, K.In base → base.Ns mainGlobals mg → FnOk l.prog w K mg base (CX w) k fa fd [x] sp)
    (hCX : ∀ (w : World) (H : Hp) (s : Shared) (e : Value) (s' : Shared), CX w [] H s (fun _ _ _ => False) e s' → False) :
    PySem.W.WalkO q loose XP YP l.row.toRowW d [] (fun f vs => PySem.call f vs) := by
  refine Att.attach_callB hn hdf fun w s₀ s₁ mg mb fa o pm cd doc a vs ns G Y ho hd hcd hmg hobj hints hlen hbits hg => ?_
  obtain ⟨K, fd, sp, KX, hb, hsp, hF⟩ := F w mg fa _ Y G.T.g hmg
  exact law_call KX G.T.g G.T.b G.T.builtins G.T.nolimit hg hobj hints (Nat.le_trans hlen hn2) hr hF hb (fun H hO hS => hsp H a ns hlen hbits hO hS) fun H e s' => hCX w H s₁ e s'
end

/-! ### comprehensions -/
section
variable {K : PySem.W.Frag} {σ : L2.St} {H : Hp} {Q : VK} {g : TG} {tt : TT} {te : TE} {vs : List Nat} {L : List Asn}
def kLc (g : TG) (tt : TT) (te : TE) (vs : List Nat) (σ : L2.St) (Q : VK) (J : It) (H1 : Hp) : Prop := ∀ D, H1 D = none → ∃ W : Nat → Nat → Hp → Prop, (∃ m, W 0 m (upd H1 D (.lst []))) ∧ ∀ i m H, W i m H →
  (J.stop i H ∧ Q (.ref D) H) ∨ (J.go i H ∧ ∃ Nx : Hp → Prop, (∀ H', Nx H' → ∃ m', m' < m ∧ W (i + 1) m' H') ∧ ∀ x H', J.yld i H x H' → g x (wipe σ vs) H' fun σ2 H2 => wipe σ2 vs = wipe σ vs ∧ tt σ2 H2 fun b H3 =>
    if b = true then te σ2 H3 fun y H4 => ∃ acc, H4 D = some (.lst acc) ∧ acc.length < sizeLine ∧ Nx (upd H4 D (.lst (acc ++ [y]))) else Nx H3)
theorem w_lc {wi : TI} (h : wi σ H fun J H1 => kLc g tt te vs σ Q J H1) : tLc wi g tt te vs σ H Q := h
theorem w_yes {R : Bool → Hp → Prop} (h : R true H) : tYes σ H R := h
/-! slices -/
def kPart (R : Option Int → Hp → Prop) (x : V) (H1 : Hp) : Prop := ∃ i, x = .int i ∧ R (some i) H1
theorem w_slice {r : V → Option Int → Option Int → Hp → VK → Prop} {tl th : TO} (h : te σ H fun x H1 => tl σ H1 fun l H2 => th σ H2 fun u H3 => r x l u H3 Q) : tSl r te tl th σ H Q := h
theorem w_noPart {R : Option Int → Hp → Prop} (h : R none H) : tNoPart σ H R := h
theorem w_part {R : Option Int → Hp → Prop} (h : te σ H fun x H1 => kPart R x H1) : tPart te σ H R := h
theorem w_partI {R : Option Int → Hp → Prop} {i : Int} (h : R (some i) H) : kPart R (.int i) H := ⟨i, rfl, h⟩
/-- what a turn's item has to reach -/
def LcT (D : Addr) (I : List V → List Asn → Prop) (y : V) (H4 : Hp) : Prop := ∃ acc, H4 D = some (.lst acc) ∧ acc.length < sizeLine ∧ ∃ acc' M, Sep (own D (.lst acc') :: M) (upd H4 D (.lst (acc ++ [y]))) ∧ I acc' M
theorem LcT.mk {D : Addr} {I : List V → List Asn → Prop} {y : V} {H : Hp} {acc : List V} {M : List Asn} (m : Pull L (own D (.lst acc)) M) (S : Sep L H) (hz : acc.length < sizeLine) (h : I (acc ++ [y]) M) : LcT D I y H :=
  ⟨acc, S.own m, hz, _, M, S.set m _, h⟩
/-- over the list xs at a: I the turn, what is made so far, what else is held -/
theorem w_lcL {a : Addr} {xs : List V} (S : Sep L H) (I : Nat → List V → List Asn → Prop) (h0 : I 0 [] L) (hl : ∀ i acc M H', i ≤ xs.length → I i acc M → Sep M H' → SqL K H' a xs)
    (hs : ∀ D i x acc M H', xs[i]? = some x → I i acc M → Sep (own D (.lst acc) :: M) H' → g x (wipe σ vs) H' fun σ2 H2 => wipe σ2 vs = wipe σ vs ∧ tt σ2 H2 fun b H3 =>
      if b = true then te σ2 H3 fun y H4 => LcT D (I (i + 1)) y H4 else ∃ acc M', Sep (own D (.lst acc) :: M') H3 ∧ I (i + 1) acc M')
    (hd : ∀ D acc M H', I xs.length acc M → Sep (own D (.lst acc) :: M) H' → Q (.ref D) H') :
    kLc g tt te vs σ Q (Itl K a) H := fun D nD =>
  lc_list (K := K) (a := a) (xs := xs) (fun i H' => ∃ acc M, Sep (own D (.lst acc) :: M) H' ∧ I i acc M) ⟨[], L, S.new nD _, h0⟩
    (fun i H' hi ⟨acc, M, S', q⟩ => hl i acc M H' hi q S'.tail)
    (fun i x H' hx' ⟨acc, M, S', q⟩ => hs D i x acc M H' hx' q S')
    (fun H' ⟨acc, M, S', q⟩ => hd D acc M H' q S')
/-- the same over a range -/
theorem w_lcR {lo : Int} {n : Nat} (S : Sep L H) (I : Nat → List V → List Asn → Prop) (h0 : I 0 [] L)
    (hs : ∀ D (i : Nat) acc M H', i < n → I i acc M → Sep (own D (.lst acc) :: M) H' → g (.int (lo + i)) (wipe σ vs) H' fun σ2 H2 => wipe σ2 vs = wipe σ vs ∧ tt σ2 H2 fun b H3 =>
      if b = true then te σ2 H3 fun y H4 => LcT D (I (i + 1)) y H4 else ∃ acc M', Sep (own D (.lst acc) :: M') H3 ∧ I (i + 1) acc M')
    (hd : ∀ D acc M H', I n acc M → Sep (own D (.lst acc) :: M) H' → Q (.ref D) H') :
    kLc g tt te vs σ Q (Itr lo n) H := fun D nD =>
  lc_range (lo := lo) (n := n) (fun i H' => ∃ acc M, Sep (own D (.lst acc) :: M) H' ∧ I i acc M) ⟨[], L, S.new nD _, h0⟩
    (fun i H' hi ⟨acc, M, S', q⟩ => hs D i acc M H' hi q S')
    (fun H' ⟨acc, M, S', q⟩ => hd D acc M H' q S')
/-- what else is held stays -/
theorem w_lcLk {a : Addr} {xs : List V} (S : Sep L H) (hl : ∀ H', Sep L H' → SqL K H' a xs) (I : Nat → List V → Prop) (h0 : I 0 [])
    (hs : ∀ D i x acc H', xs[i]? = some x → I i acc → Sep (own D (.lst acc) :: L) H' → g x (wipe σ vs) H' fun σ2 H2 => wipe σ2 vs = wipe σ vs ∧ tt σ2 H2 fun b H3 =>
      if b = true then te σ2 H3 fun y H4 => LcT D (fun acc M => M = L ∧ I (i + 1) acc) y H4 else ∃ acc M', Sep (own D (.lst acc) :: M') H3 ∧ M' = L ∧ I (i + 1) acc)
    (hd : ∀ D acc H', I xs.length acc → Sep (own D (.lst acc) :: L) H' → Q (.ref D) H') : kLc g tt te vs σ Q (Itl K a) H :=
  w_lcL S (fun i acc M => M = L ∧ I i acc) ⟨rfl, h0⟩ (fun i acc M H' _ ⟨e, _⟩ S' => hl H' (by rw [← e]; exact S')) (fun D i x acc M H' hx ⟨e, q⟩ S' => hs D i x acc H' hx q (by rw [← e]; exact S'))
    (fun D acc M H' ⟨e, q⟩ S' => hd D acc H' q (by rw [← e]; exact S'))
theorem w_lcRk {lo : Int} {n : Nat} (S : Sep L H) (I : Nat → List V → Prop) (h0 : I 0 [])
    (hs : ∀ D (i : Nat) acc H', i < n → I i acc → Sep (own D (.lst acc) :: L) H' → g (.int (lo + i)) (wipe σ vs) H' fun σ2 H2 => wipe σ2 vs = wipe σ vs ∧ tt σ2 H2 fun b H3 =>
      if b = true then te σ2 H3 fun y H4 => LcT D (fun acc M => M = L ∧ I (i + 1) acc) y H4 else ∃ acc M', Sep (own D (.lst acc) :: M') H3 ∧ M' = L ∧ I (i + 1) acc)
    (hd : ∀ D acc H', I n acc → Sep (own D (.lst acc) :: L) H' → Q (.ref D) H') : kLc g tt te vs σ Q (Itr lo n) H :=
  w_lcR S (fun i acc M => M = L ∧ I i acc) ⟨rfl, h0⟩ (fun D i acc M H' hi ⟨e, q⟩ S' => hs D i acc H' hi q (by rw [← e]; exact S'))
    (fun D acc M H' ⟨e, q⟩ S' => hd D acc H' q (by rw [← e]; exact S'))
theorem LcT.mkK {D : Addr} {I : List V → Prop} {y : V} {H : Hp} {acc : List V} {M : List Asn} (p : Perms M (own D (.lst acc) :: L)) (S : Sep M H) (hz : acc.length < sizeLine) (h : I (acc ++ [y])) : LcT D (fun acc M => M = L ∧ I acc) y H :=
  LcT.mk .here (S.perm p) hz ⟨rfl, h⟩
/-- loops: what is held stays -/
theorem w_forLk {D : Ends} {tb : TS} {a : Addr} {xs : List V} (S : Sep L H) (hl : ∀ H', Sep L H' → SqL K H' a xs) (I : Nat → L2.St → Prop) (h0 : I 0 σ)
    (hs : ∀ i x σ H, xs[i]? = some x → I i σ → Sep L H → g x σ H fun σ2 H2 => tb { D with nx := fun σ H => I (i + 1) σ ∧ Sep L H, ct := fun σ H => I (i + 1) σ ∧ Sep L H, bk := D.nx } σ2 H2)
    (hd : ∀ σ H, I xs.length σ → Sep L H → D.nx σ H) : kFor g tb D σ (Itl K a) H :=
  w_forL (fun i σ H => I i σ ∧ Sep L H) ⟨h0, S⟩ (fun i σ H _ ⟨_, S'⟩ => hl H S') (fun i x σ H hx ⟨q, S'⟩ => hs i x σ H hx q S') fun σ H ⟨q, S'⟩ => hd σ H q S'
theorem w_forRk {D : Ends} {tb : TS} {lo : Int} {n : Nat} (S : Sep L H) (I : Nat → L2.St → Prop) (h0 : I 0 σ)
    (hs : ∀ i σ H, i < n → I i σ → Sep L H → g (.int (lo + i)) σ H fun σ2 H2 => tb { D with nx := fun σ H => I (i + 1) σ ∧ Sep L H, ct := fun σ H => I (i + 1) σ ∧ Sep L H, bk := D.nx } σ2 H2)
    (hd : ∀ σ H, I n σ → Sep L H → D.nx σ H) : kFor g tb D σ (Itr lo n) H :=
  w_forR (fun i σ H => I i σ ∧ Sep L H) ⟨h0, S⟩ (fun i σ H hi ⟨q, S'⟩ => hs i σ H hi q S') fun σ H ⟨q, S'⟩ => hd σ H q S'
end
end Lo

set_option Elab.async false
set_option linter.all false
set_option maxRecDepth 100000
set_option maxHeartbeats 4000000
namespace Lo
open PySem PySem.Spec L2

/-! ### lists of ints: sorted ones, the least free one -/
theorem sorted_one : ∀ {xs ys : List Int}, xs.Perm ys → xs.Pairwise (· ≤ ·) → ys.Pairwise (· ≤ ·) → xs = ys
  | [], ys, p, _, _ => (List.nil_perm.mp p).symm
  | x :: xs, [], p, _, _ => absurd p (by intro h; have := h.length_eq; simp at this)
  | x :: xs, y :: ys, p, h1, h2 => by
    obtain ⟨a1, b1⟩ := List.pairwise_cons.mp h1
    obtain ⟨a2, b2⟩ := List.pairwise_cons.mp h2
    have e : x = y := by
      have m1 : x ∈ y :: ys := p.mem_iff.mp List.mem_cons_self
      have m2 : y ∈ x :: xs := p.mem_iff.mpr List.mem_cons_self
      rcases List.mem_cons.mp m1 with e | m1
      · exact e
      · rcases List.mem_cons.mp m2 with e | m2
        · exact e.symm
        · exact Int.le_antisymm (a1 y m2) (a2 x m1)
    subst e
    rw [sorted_one (p.cons_inv) b1 b2]
theorem nodup_sub : ∀ {xs ys : List Int}, xs.Nodup → (∀ x ∈ xs, x ∈ ys) → xs.length ≤ ys.length
  | [], _, _, _ => Nat.zero_le _
  | x :: xs, ys, h, s => by
    obtain ⟨h1, h2⟩ := List.nodup_cons.mp h
    have m := s x List.mem_cons_self
    have q := nodup_sub (xs := xs) (ys := ys.erase x) h2 fun z hz => (List.mem_erase_of_ne (fun e : z = x => h1 (by rw [← e]; exact hz))).mpr (s z (List.mem_cons_of_mem _ hz))
    have l := List.length_erase_of_mem m
    have := List.length_pos_of_mem m
    rw [List.length_cons]
    omega
/-- 0 .. g - 1 are all there: there are at least g -/
theorem below_len {ks : List Int} {g : Nat} (h : ∀ j : Nat, j < g → (j : Int) ∈ ks) : g ≤ ks.length := by
  have q := nodup_sub (xs := (List.range g).map (fun j : Nat => (j : Int))) (ys := ks)
    (by rw [List.Nodup, List.pairwise_map]; exact (List.nodup_range (n := g)).imp fun h e => h (Int.ofNat.inj e)) fun x hx => by
      obtain ⟨j, hj, rfl⟩ := List.mem_map.mp hx
      exact h j (List.mem_range.mp hj)
  rw [List.length_map, List.length_range] at q
  exact q
/-- the least one from 0 on that isn't there -/
def Least (ks : List Int) (g : Int) : Prop := 0 ≤ g ∧ g ∉ ks ∧ ∀ j : Int, 0 ≤ j → j < g → j ∈ ks
theorem Least.one {ks : List Int} {g g' : Int} (h : Least ks g) (h' : Least ks g') : g = g' := by
  obtain ⟨a, b, c⟩ := h
  obtain ⟨a', b', c'⟩ := h'
  rcases Int.lt_trichotomy g g' with l | l | l
  · exact absurd (c' g a l) b
  · exact l
  · exact absurd (c g' a' l) b'

/-! ### tables: keys ints, in their order -/
def tab (ks : List Int) (f : Int → V) : List (Key × V) := ks.map fun k => (Sum.inl k, f k)
def set1 {α : Type} (f : Int → α) (g : Int) (v : α) : Int → α := fun k => if k = g then v else f k
theorem set1_same {α : Type} {f : Int → α} {g : Int} {v : α} : set1 f g v g = v := if_pos rfl
theorem set1_ne {α : Type} {f : Int → α} {g k : Int} {v : α} (h : k ≠ g) : set1 f g v k = f k := if_neg h
theorem set1_twice {α : Type} {f : Int → α} {g : Int} {v u : α} : set1 (set1 f g v) g u = set1 f g u := by
  funext k
  unfold set1
  split <;> rfl
theorem set1_at {α : Type} {f : Int → α} {g : Int} {v : α} (h : v = f g) : set1 f g v = f := by
  funext k
  unfold set1
  split
  · rename_i e; rw [e, h]
  · rfl
theorem tab_keys (ks : List Int) (f : Int → V) : (tab ks f).map (·.1) = ks.map Sum.inl := by
  unfold tab
  rw [List.map_map]
  rfl
theorem tab_len (ks : List Int) (f : Int → V) : (tab ks f).length = ks.length := List.length_map _
theorem valV_tab {ks : List Int} {f : Int → V} {g : Int} : valV (tab ks f) (Sum.inl g) = if g ∈ ks then some (f g) else none := by
  induction ks with
  | nil => rfl
  | cons k ks ih =>
    show valV ((Sum.inl k, f k) :: tab ks f) (Sum.inl g) = _
    by_cases e : k = g
    · subst e
      rw [valV_pos rfl, if_pos List.mem_cons_self]
    · rw [valV_neg (fun z => e (Sum.inl.inj z)), ih]
      by_cases m : g ∈ ks
      · rw [if_pos m, if_pos (List.mem_cons_of_mem _ m)]
      · rw [if_neg m, if_neg fun z => (List.mem_cons.mp z).elim (fun z => e z.symm) m]
theorem valV_in' {ks : List Int} {f : Int → V} {g : Int} (h : g ∈ ks) : valV (tab ks f) (Sum.inl g) = some (f g) := by rw [valV_tab, if_pos h]
theorem valV_some {ks : List Int} {f : Int → V} {g : Int} : (valV (tab ks f) (Sum.inl g)).isSome = decide (g ∈ ks) := by
  rw [valV_tab]
  by_cases m : g ∈ ks <;> simp [m]
theorem put_old {ks : List Int} {f : Int → V} {g : Int} {v : V} (h : g ∈ ks) : putK (tab ks f) (Sum.inl g) v = tab ks (set1 f g v) := by
  unfold putK
  rw [if_pos (by rw [valV_any, valV_some]; exact decide_eq_true h)]
  unfold tab
  rw [List.map_map]
  refine List.map_congr_left fun k hk => ?_
  show (if (Sum.inl k : Key) = Sum.inl g then ((Sum.inl k : Key), v) else (Sum.inl k, f k)) = (Sum.inl k, set1 f g v k)
  by_cases e : k = g
  · subst e
    rw [if_pos rfl, set1_same]
  · rw [if_neg (fun z => e (Sum.inl.inj z)), set1_ne e]
theorem put_new {ks : List Int} {f : Int → V} {g : Int} {v : V} (h : g ∉ ks) : putK (tab ks f) (Sum.inl g) v = tab (ks ++ [g]) (set1 f g v) := by
  rw [putK_new v (by rw [valV_tab, if_neg h])]
  unfold tab
  rw [List.map_append]
  congr 1
  · refine List.map_congr_left fun k hk => ?_
    rw [set1_ne fun e : k = g => h (by rw [← e]; exact hk)]
  · show [((Sum.inl g : Key), v)] = [((Sum.inl g : Key), set1 f g v g)]
    rw [set1_same]
theorem drop_tab {ks : List Int} {f : Int → V} {g : Int} : dropK (tab ks f) (Sum.inl g) = tab (ks.filter fun k => decide (k ≠ g)) f := by
  unfold dropK tab
  rw [List.filter_map]
  congr 1
  refine List.filter_congr fun k _ => ?_
  show decide ((Sum.inl k : Key) ≠ Sum.inl g) = decide (k ≠ g)
  by_cases e : k = g
  · subst e; simp
  · simp [e]
theorem tab_congr {ks : List Int} {f f' : Int → V} (h : ∀ k ∈ ks, f k = f' k) : tab ks f = tab ks f' := List.map_congr_left fun k hk => by rw [h k hk]
theorem nodup_snoc {ks : List Int} {g : Int} (h : ks.Nodup) (m : g ∉ ks) : (ks ++ [g]).Nodup := by
  rw [List.nodup_append]
  exact ⟨h, by simp, fun a ha b hb e => by
    rw [List.mem_singleton.mp hb] at e
    exact m (e ▸ ha)⟩
theorem filter_ne_out {ks : List Int} {g : Int} (h : g ∉ ks) : (ks.filter fun k => decide (k ≠ g)) = ks :=
  List.filter_eq_self.mpr fun z hz => decide_eq_true (p := z ≠ g) fun e => h (by rw [← e]; exact hz)
theorem filter_ne_len {ks : List Int} {g : Int} (h : ks.Nodup) (m : g ∈ ks) : (ks.filter fun k => decide (k ≠ g)).length + 1 = ks.length := by
  induction ks with
  | nil => cases m
  | cons k ks ih =>
    obtain ⟨h1, h2⟩ := List.nodup_cons.mp h
    by_cases e : k = g
    · subst e
      rw [List.filter_cons, if_neg (by simp), filter_ne_out h1]
      rfl
    · have m' : g ∈ ks := (List.mem_cons.mp m).resolve_left fun z => e z.symm
      rw [List.filter_cons, if_pos (by simp [e]), List.length_cons, List.length_cons, ih h2 m']
theorem mem_filter_ne {ks : List Int} {g k : Int} : (k ∈ ks.filter fun k => decide (k ≠ g)) ↔ k ∈ ks ∧ k ≠ g := by simp [List.mem_filter]

/-! ### many cells, one for each key -/
theorem Stars.all_pull {f : Int → Asn} : ∀ {ks : List Int} {g : Int}, ks.Nodup → g ∈ ks → Pull (ks.map f) (f g) ((ks.filter fun k => decide (k ≠ g)).map f)
  | [], _, _, m => by cases m
  | k :: ks, g, h, m => by
    obtain ⟨h1, h2⟩ := List.nodup_cons.mp h
    by_cases e : k = g
    · subst e
      rw [List.filter_cons, if_neg (by simp), filter_ne_out h1]
      exact .here
    · have m' : g ∈ ks := (List.mem_cons.mp m).resolve_left fun z => e z.symm
      rw [List.filter_cons, if_pos (by simp [e])]
      exact .there (Stars.all_pull h2 m')
section
variable {L : List Asn} {H : Hp}
/-- one of many taken out, put back (perhaps changed) -/
theorem Sep.one_of {f : Int → Asn} {ks : List Int} {g : Int} (h : ks.Nodup) (m : g ∈ ks) (S : Sep (Stars (ks.map f) :: L) H) : Sep (f g :: Stars ((ks.filter fun k => decide (k ≠ g)).map f) :: L) H := by
  have S2 := S.conv (B := Stars (f g :: (ks.filter fun k => decide (k ≠ g)).map f)) fun G x => Stars.pull (Stars.all_pull h m) x
  exact Sep.join1 (M := (ks.filter fun k => decide (k ≠ g)).map f) (Sep.split S2)
theorem Sep.one_back {f f' : Int → Asn} {ks : List Int} {g : Int} (h : ks.Nodup) (m : g ∈ ks) (e : ∀ k, k ≠ g → f k = f' k) (S : Sep (f' g :: Stars ((ks.filter fun k => decide (k ≠ g)).map f) :: L) H) : Sep (Stars (ks.map f') :: L) H := by
  have e2 : (ks.filter fun k => decide (k ≠ g)).map f = (ks.filter fun k => decide (k ≠ g)).map f' := List.map_congr_left fun k hk => e k (mem_filter_ne.mp hk).2
  rw [e2] at S
  have S2 : Sep (Stars (f' g :: (ks.filter fun k => decide (k ≠ g)).map f') :: L) H := Sep.join (M := f' g :: (ks.filter fun k => decide (k ≠ g)).map f') (by
    have S3 := (S.pull (.there .here)).split
    exact S3.pull (L' := (ks.filter fun k => decide (k ≠ g)).map f' ++ L) (by
      have : ∀ M : List Asn, Pull (M ++ f' g :: L) (f' g) (M ++ L) := fun M => by
        induction M with
        | nil => exact .here
        | cons A M ih => exact .there ih
      exact this _))
  exact S2.conv fun G x => Stars.push (Stars.all_pull h m) x
/-- a further one, at the end -/
theorem Sep.one_new {f f' : Int → Asn} {ks : List Int} {g : Int} (e : ∀ k ∈ ks, f k = f' k) (S : Sep (f' g :: Stars (ks.map f) :: L) H) : Sep (Stars ((ks ++ [g]).map f') :: L) H := by
  have e2 : ks.map f = ks.map f' := List.map_congr_left e
  rw [e2] at S
  have S3 := (S.pull (.there .here)).split
  have S4 := (show Sep (ks.map f' ++ ([f' g] ++ L)) H from S3)
  rw [← List.append_assoc] at S4
  have S5 := S4.join
  rw [List.map_append]
  exact S5
end
end Lo

set_option Elab.async false
set_option linter.all false
set_option maxRecDepth 100000
set_option maxHeartbeats 4000000
namespace Lo
open PySem PySem.Spec L2
section
variable {K : PySem.W.Frag} {H : Hp} {p q : Addr} {Q : VK}
/-! ### data that is compared -/
theorem dp_ints : ∀ ns : List Int, DpAll K H (ns.map V.int) (ns.map PyData.int)
  | [] => .nil
  | n :: ns => .cons (.int n) (dp_ints ns)
theorem dp_intL {ns : List Int} (h : SqL K H p (ns.map V.int)) : Dp K H (.ref p) (.list (ns.map PyData.int)) := .lst h (dp_ints ns)
theorem can_ints : ∀ ns : List Int, PyData.canLayAll0 (ns.map PyData.int) = true
  | [] => by simp only [List.map_nil, PyData.canLayAll0]
  | n :: ns => by simp only [List.map_cons, PyData.canLayAll0, PyData.canLay0, can_ints ns, Bool.and_self]
theorem dep_ints : ∀ ns : List Int, PyData.depthAll (ns.map PyData.int) = 0
  | [] => by simp only [List.map_nil, PyData.depthAll]
  | n :: ns => by
    simp only [List.map_cons, PyData.depthAll, PyData.depth, dep_ints ns]
    rfl
theorem sh_ints (ns : List Int) : SeqAt.shaped (.list (ns.map PyData.int)) = true := by
  unfold SeqAt.shaped
  rw [Bool.and_eq_true]
  refine ⟨?_, ?_⟩
  · simp only [PyData.canLay0]
    exact can_ints ns
  · refine decide_eq_true ?_
    simp only [PyData.depth, dep_ints]
    decide
theorem eqv_ints : ∀ xs ys : List Int, PyData.eqvAll (xs.map PyData.int) (ys.map PyData.int) = decide (xs = ys)
  | [], [] => by simp [PyData.eqvAll]
  | [], y :: ys => by simp [PyData.eqvAll]
  | x :: xs, [] => by simp [PyData.eqvAll]
  | x :: xs, y :: ys => by
    simp only [List.map_cons, PyData.eqvAll, PyData.eqv, eqv_ints xs ys]
    by_cases h : x = y
    · subst h
      by_cases h2 : xs = ys
      · subst h2; simp
      · simp [h2]
    · simp [h]
theorem eqv_intL (xs ys : List Int) : PyData.eqv (.list (xs.map PyData.int)) (.list (ys.map PyData.int)) = decide (xs = ys) := by
  simp only [PyData.eqv]
  exact eqv_ints xs ys
theorem w_neInts {xs ys : List Int} (h1 : SqL K H p (xs.map V.int)) (h2 : SqL K H q (ys.map V.int)) (k : Q (.bl (!decide (xs = ys))) H) : rNeD K (.ref p) (.ref q) H Q :=
  ⟨_, _, dp_intL h1, dp_intL h2, sh_ints _, sh_ints _, by rw [eqv_intL]; exact k⟩
theorem w_eqInts {xs ys : List Int} (h1 : SqL K H p (xs.map V.int)) (h2 : SqL K H q (ys.map V.int)) (k : Q (.bl (decide (xs = ys))) H) : rEqD K (.ref p) (.ref q) H Q :=
  ⟨_, _, dp_intL h1, dp_intL h2, sh_ints _, sh_ints _, by rw [eqv_intL]; exact k⟩
/-! ### all, any -/
theorem w_all {bs : List Bool} (h : SqL K H p (bs.map V.bl)) (k : Q (.bl (bs.all id)) H) : rAll K [.ref p] H Q := ⟨p, bs, rfl, h, k⟩
theorem w_any {bs : List Bool} (h : SqL K H p (bs.map V.bl)) (k : Q (.bl (bs.any id)) H) : rAny K [.ref p] H Q := ⟨p, bs, rfl, h, k⟩
theorem all_true (n : Nat) : (List.replicate n true).all id = true := by
  rw [List.all_eq_true]
  intro x hx
  rw [(List.mem_replicate.mp hx).2]
  rfl
theorem w_allT {n : Nat} (h : SqL K H p ((List.replicate n true).map V.bl)) (k : Q (.bl true) H) : rAll K [.ref p] H Q := w_all h (by rw [all_true]; exact k)
theorem rep_snoc {α : Type} (n : Nat) (b : α) : List.replicate n b ++ [b] = List.replicate (n + 1) b := by
  rw [List.replicate_succ']
theorem repV_snoc (n : Nat) : (List.replicate n true).map V.bl ++ [V.bl true] = (List.replicate (n + 1) true).map V.bl := by
  rw [← rep_snoc n true, List.map_append]
  rfl
/-! ### data with no dict in it -/
inductive Flt : Nat → PyData → Prop
  | non {n : Nat} : Flt n .none
  | bl {n : Nat} (b : Bool) : Flt n (.bool b)
  | int {n : Nat} (i : Int) : Flt n (.int i)
  | str {n : Nat} {x : Str} (h : PyData.canLay0 (.str x) = true) : Flt n (.str x)
  | lst {n : Nat} {ds : List PyData} (h : ∀ d ∈ ds, Flt n d) : Flt (n + 1) (.list ds)
  | tup {n : Nat} {ds : List PyData} (h : ∀ d ∈ ds, Flt n d) : Flt (n + 1) (.tuple ds)
theorem canAll : ∀ {ds : List PyData}, (∀ d ∈ ds, PyData.canLay0 d = true) → PyData.canLayAll0 ds = true
  | [], _ => by simp only [PyData.canLayAll0]
  | d :: ds, h => by simp only [PyData.canLayAll0, h d (List.mem_cons_self ..), canAll fun e he => h e (List.mem_cons_of_mem _ he), Bool.and_self]
theorem depAll {n : Nat} : ∀ {ds : List PyData}, (∀ d ∈ ds, PyData.depth d ≤ n) → PyData.depthAll ds ≤ n
  | [], _ => by simp only [PyData.depthAll]; exact Nat.zero_le _
  | d :: ds, h => by
    simp only [PyData.depthAll]
    exact Nat.max_le.mpr ⟨h d (List.mem_cons_self ..), depAll fun e he => h e (List.mem_cons_of_mem _ he)⟩
theorem selfAll : ∀ {ds : List PyData}, (∀ d ∈ ds, PyData.eqv d d = true) → PyData.eqvAll ds ds = true
  | [], _ => by simp only [PyData.eqvAll]
  | d :: ds, h => by simp only [PyData.eqvAll, h d (List.mem_cons_self ..), selfAll fun e he => h e (List.mem_cons_of_mem _ he), Bool.and_self]
theorem Flt.all {n : Nat} {d : PyData} (h : Flt n d) : PyData.canLay0 d = true ∧ PyData.depth d ≤ n ∧ PyData.eqv d d = true := by
  induction h with
  | non => simp [PyData.canLay0, PyData.depth, PyData.eqv]
  | bl b => simp [PyData.canLay0, PyData.depth, PyData.eqv]
  | int i => simp [PyData.canLay0, PyData.depth, PyData.eqv]
  | str h => exact ⟨h, by simp [PyData.depth], by simp [PyData.eqv]⟩
  | lst h ih =>
    simp only [PyData.canLay0, PyData.depth, PyData.eqv]
    exact ⟨canAll fun d hd => (ih d hd).1, Nat.succ_le_succ (depAll fun d hd => (ih d hd).2.1), selfAll fun d hd => (ih d hd).2.2⟩
  | tup h ih =>
    simp only [PyData.canLay0, PyData.depth, PyData.eqv]
    exact ⟨canAll fun d hd => (ih d hd).1, Nat.succ_le_succ (depAll fun d hd => (ih d hd).2.1), selfAll fun d hd => (ih d hd).2.2⟩
theorem Flt.shaped {n : Nat} {d : PyData} (h : Flt n d) (hn : n ≤ 64) : SeqAt.shaped d = true := by
  unfold SeqAt.shaped
  rw [Bool.and_eq_true]
  exact ⟨h.all.1, decide_eq_true (Nat.le_trans h.all.2.1 hn)⟩
theorem dp_map {α : Type} {f : α → V} {g : α → PyData} : ∀ {l : List α}, (∀ a ∈ l, Dp K H (f a) (g a)) → DpAll K H (l.map f) (l.map g)
  | [], _ => .nil
  | a :: l, h => .cons (h a (List.mem_cons_self ..)) (dp_map fun b hb => h b (List.mem_cons_of_mem _ hb))
/-- both sides are the same data -/
theorem w_eqSame {x y : V} {n : Nat} {d : PyData} (f : Flt n d) (hn : n ≤ 64) (h1 : Dp K H x d) (h2 : Dp K H y d) (k : Q (.bl true) H) : rEqD K x y H Q :=
  ⟨d, d, h1, h2, f.shaped hn, f.shaped hn, by rw [f.all.2.2]; exact k⟩
theorem w_neSame {x y : V} {n : Nat} {d : PyData} (f : Flt n d) (hn : n ≤ 64) (h1 : Dp K H x d) (h2 : Dp K H y d) (k : Q (.bl false) H) : rNeD K x y H Q :=
  ⟨d, d, h1, h2, f.shaped hn, f.shaped hn, by rw [f.all.2.2]; exact k⟩
/-! [v] * k -/
theorem w_rep1 {L L' : List Asn} {p : Addr} {k : Int} {v : V} (S : Sep L H) (m : Pull L (own p (.lst [v])) L') (h1 : 0 ≤ k) (h2 : k ≤ 65536) (q : ∀ r H', Sep (own r (.lst (List.replicate k.toNat v)) :: L) H' → Q (.ref r) H') : rRep (.ref p) (.int k) H Q := by
  refine ⟨p, k, [v], rfl, rfl, S.own m, by omega, by omega, by rw [List.length_singleton, sizeLine_eq]; omega, fun r nr => ?_⟩
  have e : (List.replicate k.toNat [v]).flatten = List.replicate k.toNat v := by
    generalize k.toNat = n
    induction n with
    | zero => rfl
    | succ n ih => rw [List.replicate_succ, List.replicate_succ, List.flatten_cons, ih]; rfl
  rw [e]
  exact q r _ (S.new nr _)
theorem dp_rep {v : V} {d : PyData} (h : Dp K H v d) : ∀ n : Nat, DpAll K H (List.replicate n v) (List.replicate n d)
  | 0 => .nil
  | n + 1 => by rw [List.replicate_succ, List.replicate_succ]; exact .cons h (dp_rep h n)
theorem flt_rep {d : PyData} {m : Nat} (h : Flt m d) (n : Nat) : Flt (m + 1) (.list (List.replicate n d)) := .lst fun e he => by rw [(List.mem_replicate.mp he).2]; exact h
theorem w_eqRep {n : Nat} {v : V} {d : PyData} (hv : Dp K H v d) (hd : Flt 0 d) (h1 : SqL K H p (List.replicate n v)) (h2 : SqL K H q (List.replicate n v)) (k : Q (.bl true) H) : rEqD K (.ref p) (.ref q) H Q :=
  w_eqSame (flt_rep hd n) (by decide) (.lst h1 (dp_rep hv n)) (.lst h2 (dp_rep hv n)) k
/-- a comparison of sizes -/
theorem map_int_get {ns : List Int} {i : Nat} {x : V} (h : (ns.map V.int)[i]? = some x) : ∃ z, ns[i]? = some z ∧ x = V.int z := by
  rw [List.getElem?_map] at h
  obtain ⟨z, h1, h2⟩ := Option.map_eq_some_iff.mp h
  exact ⟨z, h1, h2.symm⟩
end
end Lo

set_option Elab.async false
set_option linter.all false
set_option maxRecDepth 100000
set_option maxHeartbeats 4000000
namespace Lo
open PySem PySem.Spec L2
def top (i : Nat) : Stmt := PySem.Challenge.pw_lentloft_k25_two_pools_again.main.body.getD i (.Pass ⟨0, 0, 0, 0⟩)
abbrev s_is_whole : Stmt := top 7
abbrev s_is_between : Stmt := top 8
abbrev s_is_content : Stmt := top 9
abbrev s__law_whole : Stmt := top 14
abbrev s__law_bag : Stmt := top 15
abbrev s__law_take : Stmt := top 16
abbrev s__law_content : Stmt := top 17
abbrev s__law_free : Stmt := top 18
abbrev s__law_right : Stmt := top 19
abbrev s__law_step : Stmt := top 20
abbrev s_law : Stmt := top 21
abbrev s_Wrong___init__ : Stmt := inClass (top 2) 0
abbrev s_NoRoom___init__ : Stmt := inClass (top 3) 0
abbrev s_NoGrain___init__ : Stmt := inClass (top 4) 0
abbrev s_Pool___init__ : Stmt := inClass (top 12) 0
abbrev s_Pool_need_grain : Stmt := inClass (top 12) 1
abbrev s_Pool_lay : Stmt := inClass (top 12) 2
abbrev s_Pool_hold : Stmt := inClass (top 12) 3
abbrev s_Pool_let_go : Stmt := inClass (top 12) 4
abbrev s_Pool_content_of : Stmt := inClass (top 12) 5
abbrev s_Pool_holds : Stmt := inClass (top 12) 6
abbrev s_Pool_kept : Stmt := inClass (top 12) 7
abbrev s_Pool_left : Stmt := inClass (top 12) 8

def d_is_whole : He.DefD := ⟨("is_whole", none), "is_whole", "is_whole", defArgs s_is_whole, defBody s_is_whole, defScope s_is_whole, [], []⟩
def d_is_between : He.DefD := ⟨("is_between", none), "is_between", "is_between", defArgs s_is_between, defBody s_is_between, defScope s_is_between, [], []⟩
def d_is_content : He.DefD := ⟨("is_content", none), "is_content", "is_content", defArgs s_is_content, defBody s_is_content, defScope s_is_content, [], []⟩
def d__law_whole : He.DefD := ⟨("_law_whole", none), "_law_whole", "_law_whole", defArgs s__law_whole, defBody s__law_whole, defScope s__law_whole, [], []⟩
def d__law_bag : He.DefD := ⟨("_law_bag", none), "_law_bag", "_law_bag", defArgs s__law_bag, defBody s__law_bag, defScope s__law_bag, [], []⟩
def d__law_take : He.DefD := ⟨("_law_take", none), "_law_take", "_law_take", defArgs s__law_take, defBody s__law_take, defScope s__law_take, [], []⟩
def d__law_content : He.DefD := ⟨("_law_content", none), "_law_content", "_law_content", defArgs s__law_content, defBody s__law_content, defScope s__law_content, [], []⟩
def d__law_free : He.DefD := ⟨("_law_free", none), "_law_free", "_law_free", defArgs s__law_free, defBody s__law_free, defScope s__law_free, [], []⟩
def d__law_right : He.DefD := ⟨("_law_right", none), "_law_right", "_law_right", defArgs s__law_right, defBody s__law_right, defScope s__law_right, [], []⟩
def d__law_step : He.DefD := ⟨("_law_step", none), "_law_step", "_law_step", defArgs s__law_step, defBody s__law_step, defScope s__law_step, [], []⟩
def d_law : He.DefD := ⟨("law", none), "law", "law", defArgs s_law, defBody s_law, defScope s_law, [], []⟩
def d_Wrong___init__ : He.DefD := ⟨("Wrong", some "__init__"), "__init__", "Wrong.__init__", defArgs s_Wrong___init__, defBody s_Wrong___init__, defScope s_Wrong___init__, [], []⟩
def d_NoRoom___init__ : He.DefD := ⟨("NoRoom", some "__init__"), "__init__", "NoRoom.__init__", defArgs s_NoRoom___init__, defBody s_NoRoom___init__, defScope s_NoRoom___init__, [], []⟩
def d_NoGrain___init__ : He.DefD := ⟨("NoGrain", some "__init__"), "__init__", "NoGrain.__init__", defArgs s_NoGrain___init__, defBody s_NoGrain___init__, defScope s_NoGrain___init__, [], []⟩
def d_Pool___init__ : He.DefD := ⟨("Pool", some "__init__"), "__init__", "Pool.__init__", defArgs s_Pool___init__, defBody s_Pool___init__, defScope s_Pool___init__, [], []⟩
def d_Pool_need_grain : He.DefD := ⟨("Pool", some "need_grain"), "need_grain", "Pool.need_grain", defArgs s_Pool_need_grain, defBody s_Pool_need_grain, defScope s_Pool_need_grain, [], []⟩
def d_Pool_lay : He.DefD := ⟨("Pool", some "lay"), "lay", "Pool.lay", defArgs s_Pool_lay, defBody s_Pool_lay, defScope s_Pool_lay, [], []⟩
def d_Pool_hold : He.DefD := ⟨("Pool", some "hold"), "hold", "Pool.hold", defArgs s_Pool_hold, defBody s_Pool_hold, defScope s_Pool_hold, [], []⟩
def d_Pool_let_go : He.DefD := ⟨("Pool", some "let_go"), "let_go", "Pool.let_go", defArgs s_Pool_let_go, defBody s_Pool_let_go, defScope s_Pool_let_go, [], []⟩
def d_Pool_content_of : He.DefD := ⟨("Pool", some "content_of"), "content_of", "Pool.content_of", defArgs s_Pool_content_of, defBody s_Pool_content_of, defScope s_Pool_content_of, [], []⟩
def d_Pool_holds : He.DefD := ⟨("Pool", some "holds"), "holds", "Pool.holds", defArgs s_Pool_holds, defBody s_Pool_holds, defScope s_Pool_holds, [], []⟩
def d_Pool_kept : He.DefD := ⟨("Pool", some "kept"), "kept", "Pool.kept", defArgs s_Pool_kept, defBody s_Pool_kept, defScope s_Pool_kept, [], []⟩
def d_Pool_left : He.DefD := ⟨("Pool", some "left"), "left", "Pool.left", defArgs s_Pool_left, defBody s_Pool_left, defScope s_Pool_left, [], []⟩
def fn : List He.DefD := [d_is_whole, d_is_between, d_is_content, d__law_whole, d__law_bag, d__law_take, d__law_content, d__law_free, d__law_right, d__law_step, d_law, d_Wrong___init__, d_NoRoom___init__, d_NoGrain___init__, d_Pool___init__, d_Pool_need_grain, d_Pool_lay, d_Pool_hold, d_Pool_let_go, d_Pool_content_of, d_Pool_holds, d_Pool_kept, d_Pool_left]
def fa : List He.Fa := [.glo "is_whole", .glo "is_between", .glo "is_content", .glo "_law_whole", .glo "_law_bag", .glo "_law_take", .glo "_law_content", .glo "_law_free", .glo "_law_right", .glo "_law_step", .glo "law", .glo "LoftError", .glo "Wrong", .glo "NoRoom", .glo "NoGrain", .glo "Pool", .free "ValueError", .free "abs", .free "all", .free "bool", .free "int", .free "isinstance", .free "len", .free "list", .free "range", .free "sorted", .int "MOST_CONTENT" 1000000000, .int "MOST_ROOM" 120, .cls "Pool", .mkr "Pool", .meth "Pool" "need_grain", .meth "Pool" "lay", .meth "Pool" "hold", .meth "Pool" "let_go", .meth "Pool" "content_of", .meth "Pool" "holds", .meth "Pool" "kept", .meth "Pool" "left", .noat "Pool" "room_for", .noat "Pool" "told_of", .noat "Pool" "times_of"]

structure Tx (K : PySem.W.Frag) (mg : PySem.Str → Option Value) : Prop where
  ex : ∃ h : Heap, K.In h ∧ h.Ns mainGlobals mg
  says : He.SaysD fa fn K
section
variable {K : PySem.W.Frag} {mg : PySem.Str → Option Value} (T : Tx K mg)
include T
theorem T_g_is_whole : mg "is_whole" = some (.ref (He.ga K "is_whole")) := by
  obtain ⟨h, X, G⟩ := T.ex
  exact He.glo_ok X G (T.says.fact 0 (f := .glo "is_whole") rfl)
theorem T_g_is_between : mg "is_between" = some (.ref (He.ga K "is_between")) := by
  obtain ⟨h, X, G⟩ := T.ex
  exact He.glo_ok X G (T.says.fact 1 (f := .glo "is_between") rfl)
theorem T_g_is_content : mg "is_content" = some (.ref (He.ga K "is_content")) := by
  obtain ⟨h, X, G⟩ := T.ex
  exact He.glo_ok X G (T.says.fact 2 (f := .glo "is_content") rfl)
theorem T_g__law_whole : mg "_law_whole" = some (.ref (He.ga K "_law_whole")) := by
  obtain ⟨h, X, G⟩ := T.ex
  exact He.glo_ok X G (T.says.fact 3 (f := .glo "_law_whole") rfl)
theorem T_g__law_bag : mg "_law_bag" = some (.ref (He.ga K "_law_bag")) := by
  obtain ⟨h, X, G⟩ := T.ex
  exact He.glo_ok X G (T.says.fact 4 (f := .glo "_law_bag") rfl)
theorem T_g__law_take : mg "_law_take" = some (.ref (He.ga K "_law_take")) := by
  obtain ⟨h, X, G⟩ := T.ex
  exact He.glo_ok X G (T.says.fact 5 (f := .glo "_law_take") rfl)
theorem T_g__law_content : mg "_law_content" = some (.ref (He.ga K "_law_content")) := by
  obtain ⟨h, X, G⟩ := T.ex
  exact He.glo_ok X G (T.says.fact 6 (f := .glo "_law_content") rfl)
theorem T_g__law_free : mg "_law_free" = some (.ref (He.ga K "_law_free")) := by
  obtain ⟨h, X, G⟩ := T.ex
  exact He.glo_ok X G (T.says.fact 7 (f := .glo "_law_free") rfl)
theorem T_g__law_right : mg "_law_right" = some (.ref (He.ga K "_law_right")) := by
  obtain ⟨h, X, G⟩ := T.ex
  exact He.glo_ok X G (T.says.fact 8 (f := .glo "_law_right") rfl)
theorem T_g__law_step : mg "_law_step" = some (.ref (He.ga K "_law_step")) := by
  obtain ⟨h, X, G⟩ := T.ex
  exact He.glo_ok X G (T.says.fact 9 (f := .glo "_law_step") rfl)
theorem T_g_law : mg "law" = some (.ref (He.ga K "law")) := by
  obtain ⟨h, X, G⟩ := T.ex
  exact He.glo_ok X G (T.says.fact 10 (f := .glo "law") rfl)
theorem T_g_LoftError : mg "LoftError" = some (.ref (He.ga K "LoftError")) := by
  obtain ⟨h, X, G⟩ := T.ex
  exact He.glo_ok X G (T.says.fact 11 (f := .glo "LoftError") rfl)
theorem T_g_Wrong : mg "Wrong" = some (.ref (He.ga K "Wrong")) := by
  obtain ⟨h, X, G⟩ := T.ex
  exact He.glo_ok X G (T.says.fact 12 (f := .glo "Wrong") rfl)
theorem T_g_NoRoom : mg "NoRoom" = some (.ref (He.ga K "NoRoom")) := by
  obtain ⟨h, X, G⟩ := T.ex
  exact He.glo_ok X G (T.says.fact 13 (f := .glo "NoRoom") rfl)
theorem T_g_NoGrain : mg "NoGrain" = some (.ref (He.ga K "NoGrain")) := by
  obtain ⟨h, X, G⟩ := T.ex
  exact He.glo_ok X G (T.says.fact 14 (f := .glo "NoGrain") rfl)
theorem T_g_Pool : mg "Pool" = some (.ref (He.ga K "Pool")) := by
  obtain ⟨h, X, G⟩ := T.ex
  exact He.glo_ok X G (T.says.fact 15 (f := .glo "Pool") rfl)
theorem T_ValueError : mg "ValueError" = none := by
  obtain ⟨h, X, G⟩ := T.ex
  exact He.free_ok X G (T.says.fact 16 (f := .free "ValueError") rfl)
theorem T_abs : mg "abs" = none := by
  obtain ⟨h, X, G⟩ := T.ex
  exact He.free_ok X G (T.says.fact 17 (f := .free "abs") rfl)
theorem T_all : mg "all" = none := by
  obtain ⟨h, X, G⟩ := T.ex
  exact He.free_ok X G (T.says.fact 18 (f := .free "all") rfl)
theorem T_bool : mg "bool" = none := by
  obtain ⟨h, X, G⟩ := T.ex
  exact He.free_ok X G (T.says.fact 19 (f := .free "bool") rfl)
theorem T_int : mg "int" = none := by
  obtain ⟨h, X, G⟩ := T.ex
  exact He.free_ok X G (T.says.fact 20 (f := .free "int") rfl)
theorem T_isinstance : mg "isinstance" = none := by
  obtain ⟨h, X, G⟩ := T.ex
  exact He.free_ok X G (T.says.fact 21 (f := .free "isinstance") rfl)
theorem T_len : mg "len" = none := by
  obtain ⟨h, X, G⟩ := T.ex
  exact He.free_ok X G (T.says.fact 22 (f := .free "len") rfl)
theorem T_list : mg "list" = none := by
  obtain ⟨h, X, G⟩ := T.ex
  exact He.free_ok X G (T.says.fact 23 (f := .free "list") rfl)
theorem T_range : mg "range" = none := by
  obtain ⟨h, X, G⟩ := T.ex
  exact He.free_ok X G (T.says.fact 24 (f := .free "range") rfl)
theorem T_sorted : mg "sorted" = none := by
  obtain ⟨h, X, G⟩ := T.ex
  exact He.free_ok X G (T.says.fact 25 (f := .free "sorted") rfl)
theorem T_c_MOST_CONTENT : Gc mg "MOST_CONTENT" (.int 1000000000) := by
  obtain ⟨h, X, G⟩ := T.ex
  obtain ⟨t, e⟩ := He.int_ok X G (T.says.fact 26 (f := .int "MOST_CONTENT" 1000000000) rfl)
  exact ⟨_, e, t, rfl⟩
theorem T_c_MOST_ROOM : Gc mg "MOST_ROOM" (.int 120) := by
  obtain ⟨h, X, G⟩ := T.ex
  obtain ⟨t, e⟩ := He.int_ok X G (T.says.fact 27 (f := .int "MOST_ROOM" 120) rfl)
  exact ⟨_, e, t, rfl⟩
theorem T_cl_Pool : Cls K (He.ga K "Pool") := He.cls_ok (T.says.fact 28 (f := .cls "Pool") rfl)
theorem T_mk_Pool : Mk K (He.ga K "Pool") (He.ma K (He.ga K "Pool") "__init__") := He.mkr_ok (T.says.fact 29 (f := .mkr "Pool") rfl)
theorem T_m_Pool_need_grain : Meth K (He.ga K "Pool") "need_grain" (He.ma K (He.ga K "Pool") "need_grain") := He.meth_ok (T.says.fact 30 (f := .meth "Pool" "need_grain") rfl)
theorem T_m_Pool_lay : Meth K (He.ga K "Pool") "lay" (He.ma K (He.ga K "Pool") "lay") := He.meth_ok (T.says.fact 31 (f := .meth "Pool" "lay") rfl)
theorem T_m_Pool_hold : Meth K (He.ga K "Pool") "hold" (He.ma K (He.ga K "Pool") "hold") := He.meth_ok (T.says.fact 32 (f := .meth "Pool" "hold") rfl)
theorem T_m_Pool_let_go : Meth K (He.ga K "Pool") "let_go" (He.ma K (He.ga K "Pool") "let_go") := He.meth_ok (T.says.fact 33 (f := .meth "Pool" "let_go") rfl)
theorem T_m_Pool_content_of : Meth K (He.ga K "Pool") "content_of" (He.ma K (He.ga K "Pool") "content_of") := He.meth_ok (T.says.fact 34 (f := .meth "Pool" "content_of") rfl)
theorem T_m_Pool_holds : Meth K (He.ga K "Pool") "holds" (He.ma K (He.ga K "Pool") "holds") := He.meth_ok (T.says.fact 35 (f := .meth "Pool" "holds") rfl)
theorem T_m_Pool_kept : Meth K (He.ga K "Pool") "kept" (He.ma K (He.ga K "Pool") "kept") := He.meth_ok (T.says.fact 36 (f := .meth "Pool" "kept") rfl)
theorem T_m_Pool_left : Meth K (He.ga K "Pool") "left" (He.ma K (He.ga K "Pool") "left") := He.meth_ok (T.says.fact 37 (f := .meth "Pool" "left") rfl)
theorem T_n_Pool_room_for : NoAttr K (He.ga K "Pool") "room_for" := He.noat_ok (T.says.fact 38 (f := .noat "Pool" "room_for") rfl)
theorem T_n_Pool_told_of : NoAttr K (He.ga K "Pool") "told_of" := He.noat_ok (T.says.fact 39 (f := .noat "Pool" "told_of") rfl)
theorem T_n_Pool_times_of : NoAttr K (He.ga K "Pool") "times_of" := He.noat_ok (T.says.fact 40 (f := .noat "Pool" "times_of") rfl)
end
set_option hygiene false in
local macro_rules | `(tactic| walk_at "pull") => `(tactic| with_reducible first
  | exact Pull.here
  | exact Pull.there Pull.here
  | exact Pull.there (Pull.there Pull.here)
  | exact Pull.there (Pull.there (Pull.there Pull.here))
  | exact Pull.there (Pull.there (Pull.there (Pull.there Pull.here)))
  | exact Pull.there (Pull.there (Pull.there (Pull.there (Pull.there Pull.here))))
  | exact Pull.there (Pull.there (Pull.there (Pull.there (Pull.there (Pull.there Pull.here)))))
  | exact Pull.there (Pull.there (Pull.there (Pull.there (Pull.there (Pull.there (Pull.there Pull.here))))))
  | exact Pull.there (Pull.there (Pull.there (Pull.there (Pull.there (Pull.there (Pull.there (Pull.there Pull.here)))))))
  | exact Pull.there (Pull.there (Pull.there (Pull.there (Pull.there (Pull.there (Pull.there (Pull.there (Pull.there Pull.here))))))))
  | exact Pull.there (Pull.there (Pull.there (Pull.there (Pull.there (Pull.there (Pull.there (Pull.there (Pull.there (Pull.there Pull.here)))))))))
  | exact Pull.there (Pull.there (Pull.there (Pull.there (Pull.there (Pull.there (Pull.there (Pull.there (Pull.there (Pull.there (Pull.there Pull.here))))))))))
  | exact Pull.there (Pull.there (Pull.there (Pull.there (Pull.there (Pull.there (Pull.there (Pull.there (Pull.there (Pull.there (Pull.there (Pull.there Pull.here)))))))))))
  | exact Pull.there (Pull.there (Pull.there (Pull.there (Pull.there (Pull.there (Pull.there (Pull.there (Pull.there (Pull.there (Pull.there (Pull.there (Pull.there Pull.here))))))))))))
  | exact Pull.there (Pull.there (Pull.there (Pull.there (Pull.there (Pull.there (Pull.there (Pull.there (Pull.there (Pull.there (Pull.there (Pull.there (Pull.there (Pull.there Pull.here)))))))))))))
  | exact Pull.there (Pull.there (Pull.there (Pull.there (Pull.there (Pull.there (Pull.there (Pull.there (Pull.there (Pull.there (Pull.there (Pull.there (Pull.there (Pull.there (Pull.there Pull.here))))))))))))))
  | exact Pull.there (Pull.there (Pull.there (Pull.there (Pull.there (Pull.there (Pull.there (Pull.there (Pull.there (Pull.there (Pull.there (Pull.there (Pull.there (Pull.there (Pull.there (Pull.there Pull.here)))))))))))))))
  | exact Pull.there (Pull.there (Pull.there (Pull.there (Pull.there (Pull.there (Pull.there (Pull.there (Pull.there (Pull.there (Pull.there (Pull.there (Pull.there (Pull.there (Pull.there (Pull.there (Pull.there Pull.here))))))))))))))))
  | exact Pull.there (Pull.there (Pull.there (Pull.there (Pull.there (Pull.there (Pull.there (Pull.there (Pull.there (Pull.there (Pull.there (Pull.there (Pull.there (Pull.there (Pull.there (Pull.there (Pull.there (Pull.there Pull.here)))))))))))))))))
  | exact Pull.there (Pull.there (Pull.there (Pull.there (Pull.there (Pull.there (Pull.there (Pull.there (Pull.there (Pull.there (Pull.there (Pull.there (Pull.there (Pull.there (Pull.there (Pull.there (Pull.there (Pull.there (Pull.there Pull.here)))))))))))))))))))
set_option hygiene false in
local macro_rules | `(tactic| walk_at "pullD") => `(tactic| first
  | exact Pull.here
  | exact Pull.there Pull.here
  | exact Pull.there (Pull.there Pull.here)
  | exact Pull.there (Pull.there (Pull.there Pull.here))
  | exact Pull.there (Pull.there (Pull.there (Pull.there Pull.here)))
  | exact Pull.there (Pull.there (Pull.there (Pull.there (Pull.there Pull.here))))
  | exact Pull.there (Pull.there (Pull.there (Pull.there (Pull.there (Pull.there Pull.here)))))
  | exact Pull.there (Pull.there (Pull.there (Pull.there (Pull.there (Pull.there (Pull.there Pull.here))))))
  | exact Pull.there (Pull.there (Pull.there (Pull.there (Pull.there (Pull.there (Pull.there (Pull.there Pull.here)))))))
  | exact Pull.there (Pull.there (Pull.there (Pull.there (Pull.there (Pull.there (Pull.there (Pull.there (Pull.there Pull.here))))))))
  | exact Pull.there (Pull.there (Pull.there (Pull.there (Pull.there (Pull.there (Pull.there (Pull.there (Pull.there (Pull.there Pull.here)))))))))
  | exact Pull.there (Pull.there (Pull.there (Pull.there (Pull.there (Pull.there (Pull.there (Pull.there (Pull.there (Pull.there (Pull.there Pull.here))))))))))
  | exact Pull.there (Pull.there (Pull.there (Pull.there (Pull.there (Pull.there (Pull.there (Pull.there (Pull.there (Pull.there (Pull.there (Pull.there Pull.here)))))))))))
  | exact Pull.there (Pull.there (Pull.there (Pull.there (Pull.there (Pull.there (Pull.there (Pull.there (Pull.there (Pull.there (Pull.there (Pull.there (Pull.there Pull.here))))))))))))
  | exact Pull.there (Pull.there (Pull.there (Pull.there (Pull.there (Pull.there (Pull.there (Pull.there (Pull.there (Pull.there (Pull.there (Pull.there (Pull.there (Pull.there Pull.here)))))))))))))
  | exact Pull.there (Pull.there (Pull.there (Pull.there (Pull.there (Pull.there (Pull.there (Pull.there (Pull.there (Pull.there (Pull.there (Pull.there (Pull.there (Pull.there (Pull.there Pull.here))))))))))))))
  | exact Pull.there (Pull.there (Pull.there (Pull.there (Pull.there (Pull.there (Pull.there (Pull.there (Pull.there (Pull.there (Pull.there (Pull.there (Pull.there (Pull.there (Pull.there (Pull.there Pull.here)))))))))))))))
  | exact Pull.there (Pull.there (Pull.there (Pull.there (Pull.there (Pull.there (Pull.there (Pull.there (Pull.there (Pull.there (Pull.there (Pull.there (Pull.there (Pull.there (Pull.there (Pull.there (Pull.there Pull.here))))))))))))))))
  | exact Pull.there (Pull.there (Pull.there (Pull.there (Pull.there (Pull.there (Pull.there (Pull.there (Pull.there (Pull.there (Pull.there (Pull.there (Pull.there (Pull.there (Pull.there (Pull.there (Pull.there (Pull.there Pull.here)))))))))))))))))
  | exact Pull.there (Pull.there (Pull.there (Pull.there (Pull.there (Pull.there (Pull.there (Pull.there (Pull.there (Pull.there (Pull.there (Pull.there (Pull.there (Pull.there (Pull.there (Pull.there (Pull.there (Pull.there (Pull.there Pull.here)))))))))))))))))))
set_option hygiene false in
local macro_rules | `(tactic| walk_at "perm") => `(tactic| repeat (with_reducible first | exact Perms.refl | exact Perms.nilS | (refine Perms.cons (by walk_at "pull") ?_) | (refine Perms.skip ?_)))
set_option hygiene false in
local macro_rules | `(tactic| walk_at "sq") => `(tactic| first
  | assumption
  | exact Sep.sql (by walk_at "pull") S
  | exact Sep.sqlR (by walk_at "pull") S)
set_option hygiene false in
local macro_rules | `(tactic| walk_at "sqt") => `(tactic| first
  | assumption
  | exact Sep.sqt (by walk_at "pull") S)
set_option hygiene false in
local macro_rules | `(tactic| walk_at "own") => `(tactic| first
  | assumption
  | exact Sep.own (by walk_at "pull") S
  | exact Sep.ro (by walk_at "pull") S)
set_option hygiene false in
local macro_rules | `(tactic| walk_at "num") => `(tactic| first | assumption | omega | (simp only [List.length_cons, List.length_nil, List.length_append, List.length_map, sizeLine_eq]; omega))
set_option hygiene false in
local macro_rules | `(tactic| walk_at "w1a") => `(tactic| with_reducible first
  | refine w_seq ?_
  | refine w_op ?_
  | refine w_cons ?_
  | refine w_nil ?_
  | refine w_cb ?_
  | refine w_call ?_
  | refine w_asg ?_
  | refine w_c ?_
  | refine w_test ?_
  | refine w_k ?_
  | refine w_true ?_
  | refine w_nt ?_
  | refine w_nf ?_
  | refine w_false ?_
  | refine w_B ?_
  | refine w_ret ?_
  | refine w_drop ?_
  | refine w_un ?_
  | refine w_not ?_
  | refine w_and ?_
  | refine w_or ?_
  | refine w_andV ?_
  | refine w_orV ?_
  | refine w_notV ?_
  | refine w_ifE ?_
  | refine w_next ?_
  | refine w_chain ?_
  | refine w_lst ?_
  | refine w_tup ?_
  | refine w_bm ?_
  | refine w_bm0 ?_
  | refine w_dget ?_
  | refine w_din ?_
  | refine w_dnotin ?_
  | refine w_dput ?_
  | refine w_dpop ?_
  | refine w_fldT ?_
  | refine w_sfldT ?_
  | refine w_meth ?_
  | refine w_make ?_
  | refine w_for ?_
  | refine w_iList ?_
  | refine w_rng1 ?_
  | refine w_slice ?_
  | refine w_noPart ?_
  | refine w_part ?_
  | refine w_partI ?_
  | refine w_lc ?_
  | refine w_gName ?_
  | refine w_yes ?_
  | refine w_iTup ?_
  | refine w_rng2 ?_
  | refine w_retN ?_
  | refine w_asgG ?_
  | refine w_gsub ?_
  | refine w_brk ?_
  | refine w_gCons ?_
  | refine w_gNil ?_
  | refine w_cont ?_)
set_option hygiene false in
local macro_rules | `(tactic| walk_at "w2") => `(tactic| first
  | ((with_reducible refine' w_var ?k1 ?_); (case k1 => rfl))
  | (with_reducible refine' w_rI0 ?_)
  | (with_reducible refine' w_eqI ?_)
  | (with_reducible refine' w_neI ?_)
  | (with_reducible refine' w_eqB ?_)
  | (with_reducible refine' w_isBl ?_)
  | (with_reducible refine' w_notBl ?_)
  | (with_reducible refine' w_neB ?_)
  | ((with_reducible refine' w_ixL ?k1 ?k2 ?_); (case k1 => walk_at "sq"); (case k2 => rfl))
  | ((with_reducible refine' w_lenL ?k1 ?_); (case k1 => walk_at "sq"))
  | ((with_reducible refine' w_lenD ?k1 S ?_); (case k1 => walk_at "pull"))
  | ((with_reducible refine' w_newL S ?k1 ?_); (case k1 => walk_at "num"); intro pn H S)
  | ((with_reducible refine' w_newT S ?k1 ?_); (case k1 => walk_at "num"); intro pn H S)
  | ((with_reducible refine' w_newD S ?_); intro pn H S)
  | ((with_reducible refine' w_setL ?k1 S ?k2 ?_); (case k1 => walk_at "pull"); (case k2 => rfl); intro H S; try simp only [Int.reduceToNat, List.set_cons_zero, List.set_cons_succ] at S)
  | ((with_reducible refine' w_tyL ?k1 ?_); (case k1 => walk_at "sq"))
  | ((with_reducible refine' w_app ?k1 S ?k2 ?_); (case k1 => walk_at "pull"); (case k2 => walk_at "num"); intro H S)
  | ((with_reducible refine' w_rev ?k1 S ?_); (case k1 => walk_at "pull"); intro H S)
  | ((with_reducible refine' w_gTup ?k1 ?k2 ?_); (case k1 => walk_at "sqt"); (case k2 => rfl))
  | ((with_reducible refine' w_slL S ?k1 ?_); (case k1 => walk_at "sq"); intro pn H S)
  | ((with_reducible refine' w_list ?k1 ?_); (case k1 => walk_at "sq"))
  | ((with_reducible refine' w_listOf S ?k1 ?_); (case k1 => walk_at "sq"); intro pn H S)
  | ((with_reducible refine' w_dgetI ?k1 ?k2 ?_); (case k1 => walk_at "own"); (case k2 => first | assumption | exact valV_in' (by assumption)))
  | ((with_reducible refine' w_dinI ?k1 ?_); (case k1 => walk_at "own"))
  | ((with_reducible refine' w_dninI ?k1 ?_); (case k1 => walk_at "own"))
  | ((with_reducible refine' w_fld ?k1 S ?k2 ?k3 ?k4 ?_); (case k1 => walk_at "pull"); (case k2 => assumption); (case k3 => assumption); (case k4 => rfl))
  | ((with_reducible refine' w_sfld ?k1 S ?k2 ?k3 ?k4 ?_); (case k1 => walk_at "pull"); (case k2 => assumption); (case k3 => assumption); (case k4 => exact Nat.le_of_ble_eq_true rfl); intro H S)
  | ((with_reducible refine' w_dputI ?k1 S ?k2 ?_); (case k1 => walk_at "pull"); (case k2 => walk_at "num"); intro H S)
  | ((with_reducible refine' w_made S ?_); intro pn H S)
  | (with_reducible refine w_max2 ?_)
  | (with_reducible refine w_min2 ?_)
  | (with_reducible refine w_abs ?_)
  | (with_reducible refine w_int1B ?_)
  | (with_reducible refine w_isN ?_)
  | (with_reducible refine w_notN ?_)
  | ((with_reducible refine' w_recv ?k1 S ?k2 ?_); (case k1 => walk_at "pull"); (case k2 => rfl))
  | ((with_reducible refine' w_isD ?k1 ?_); (case k1 => walk_at "own"))
  | ((with_reducible refine' w_r1 ?k1 ?k2 ?_); (case k1 => walk_at "num"); (case k2 => walk_at "num"))
  | ((with_reducible refine' w_r2 ?k1 ?k2 ?k3 ?k4 ?_); (case k1 => walk_at "num"); (case k2 => walk_at "num"); (case k3 => walk_at "num"); (case k4 => walk_at "num"))
  | ((with_reducible refine' w_tupI ?k1 ?_); (case k1 => walk_at "sqt"))
  | ((with_reducible refine' w_ixT ?k1 ?k2 ?_); (case k1 => walk_at "sqt"); (case k2 => rfl))
  | ((with_reducible refine' w_lenT ?k1 ?_); (case k1 => walk_at "sqt"))
  | ((with_reducible refine' w_rI ?k1 ?_); (case k1 => first | (show CDiv _ _; exact ⟨by omega, by omega⟩) | (show (0 : Int) < _; omega) | (show CMul _ _; exact Or.inl (by omega)) | (show CMul _ _; exact Or.inr (by omega)))))
set_option hygiene false in
local macro_rules | `(tactic| walk_at "w1") => `(tactic| first | (walk_at "w1a") | (with_reducible refine w_ifS ?_))
set_option hygiene false in
local macro_rules | `(tactic| walk_at "ws") => `(tactic| repeat (first | (walk_at "w1a") | (walk_at "w2") | (dsimp only)))
set_option hygiene false in
local macro_rules | `(tactic| walk_at "w") => `(tactic| repeat (first | (walk_at "w1") | (walk_at "w2") | (dsimp only)))
set_option hygiene false in
local macro_rules | `(tactic| walk_at "start") => `(tactic| ((try dsimp only [cxOf]); (try simp only [L2.start, List.map_cons, List.map_nil, List.length_cons, List.length_nil, Nat.reduceAdd, Nat.reduceSub, List.reduceReplicate, List.replicate_succ, List.replicate_zero, List.cons_append, List.nil_append, List.append_nil])))

section
variable {P : Program} {w : World} {K : PySem.W.Frag} {mg : PySem.Str → Option Value} {base : Heap}

/-! ### whole numbers, the bag of draws -/
theorem w_isi {x : V} {t u : String} {b : Bool} {H : Hp} {Q : VK} (ty : TyX K H x (.type t)) (e : kitB t u = some b) (q : Q (.bl b) H) : rIsi K [x, .ty u] H Q :=
  ⟨x, .ty u, _, _, b, rfl, .ty u, ty, kit_ty e, q⟩
theorem ki1 : kitB "int" "int" = some true := by decide +kernel
theorem ki2 : kitB "int" "bool" = some false := by decide +kernel
theorem ki3 : kitB "bool" "bool" = some true := by decide +kernel
theorem ki4 : kitB "list" "list" = some true := by decide +kernel
theorem ki5 : kitB "bool" "int" = some true := by decide +kernel
theorem w_isiII {i : Int} {H : Hp} {Q : VK} (q : Q (.bl true) H) : rIsi K [.int i, .ty "int"] H Q := w_isi (.base (.int i)) ki1 q
theorem w_isiIB {i : Int} {H : Hp} {Q : VK} (q : Q (.bl false) H) : rIsi K [.int i, .ty "bool"] H Q := w_isi (.base (.int i)) ki2 q
theorem w_isiBB {i : Bool} {H : Hp} {Q : VK} (q : Q (.bl true) H) : rIsi K [.bl i, .ty "bool"] H Q := w_isi (.base (.bl i)) ki3 q
theorem w_isiLL {p : Addr} {xs : List V} {H : Hp} {Q : VK} (e : H p = some (.lst xs)) (q : Q (.bl true) H) : rIsi K [.ref p, .ty "list"] H Q := w_isi (.base (.lst e)) ki4 q
set_option hygiene false in
local macro_rules | `(tactic| walk_at "w2") => `(tactic| first
  | (with_reducible refine w_isiII ?_)
  | (with_reducible refine w_isiIB ?_)
  | (with_reducible refine w_isiBB ?_)
  | ((with_reducible refine' w_isiLL ?k1 ?_); (case k1 => walk_at "own")))

def sp__law_whole (K : PySem.W.Frag) : Sp := fun vs H Q _ => ∃ i : Int, vs = [.int i] ∧ Q (.bl true) H
theorem sc__law_whole : FnScope ["_law_found"] ["_law_found"] (defScope s__law_whole) := ⟨rfl, rfl, rfl, by decide +kernel, rfl, by decide +kernel, by decide +kernel⟩
set_option maxHeartbeats 4000000 in
theorem g__law_whole (T : Tx K mg) : GFn P w K mg base CX0 "_law_whole" 1 ["_law_found"] (sp__law_whole K) := by
  obtain ⟨fd, FD⟩ := T.says.def_ 3 (d := d__law_whole) rfl
  refine ⟨_, fd, ok0 FD sc__law_whole (fun vs H Q E h => ?_) (fun cdv A outer s H vs Q E hr h => ?_), T_g__law_whole T, FD.kp, FD.bindsN fun _ _ _ _ _ _ us hl => match us, hl with | [_], _ => rfl⟩
  · obtain ⟨i, rfl, q⟩ := h
    rfl
  · obtain ⟨i, rfl, q⟩ := h
    refine ⟨_, (pss_one (ps_ret (pe_and (pe_callB call_isi (by rfl) (T_isinstance T) (by decide +kernel) (pa_cons (pv 0) (pa_cons (pe_bltn (v := .ty "int") (by rfl) (T_int T) (by decide +kernel) rfl) pa_nil))) (pe_one (pe_not (pe_callB call_isi (by rfl) (T_isinstance T) (by decide +kernel) (pa_cons (pv 0) (pa_cons (pe_bltn (v := .ty "bool") (by rfl) (T_bool T) (by decide +kernel) rfl) pa_nil)))))))), ?_⟩
    walk_at "start"
    walk_at "w"
    exact q
theorem c_whole {i : Int} {H : Hp} {Q : VK} {E : XK} (q : Q (.bl true) H) : sp__law_whole K ([.int i] ++ []) H Q E := ⟨i, rfl, q⟩
def Bag (b : Addr) : Asn := fun g => ∃ (z0 z1 z2 : Int) (l : Addr) (ns : List Int), (0 ≤ z0 ∧ 0 ≤ z1 ∧ z1 < 2147483647 ∧ 0 ≤ z2 ∧ ∀ n ∈ ns, 0 ≤ n) ∧ Stars [own b (.lst [.int z0, .int z1, .int z2, .ref l]), own l (.lst (ns.map V.int))] g
theorem Bag.open {b : Addr} {L : List Asn} {H : Hp} (S : Sep (Bag b :: L) H) : ∃ (z0 z1 z2 : Int) (l : Addr) (ns : List Int), 0 ≤ z0 ∧ 0 ≤ z1 ∧ z1 < 2147483647 ∧ 0 ≤ z2 ∧ (∀ n ∈ ns, 0 ≤ n) ∧ Sep (own b (.lst [.int z0, .int z1, .int z2, .ref l]) :: own l (.lst (ns.map V.int)) :: L) H := by
  obtain ⟨z0, S⟩ := S.ex
  obtain ⟨z1, S⟩ := S.ex
  obtain ⟨z2, S⟩ := S.ex
  obtain ⟨l, S⟩ := S.ex
  obtain ⟨ns, S⟩ := S.ex
  obtain ⟨⟨h0, h1, h2, h3, h4⟩, S⟩ := S.fact
  exact ⟨z0, z1, z2, l, ns, h0, h1, h2, h3, h4, S.split⟩
theorem Bag.shut {b l : Addr} {z0 z1 z2 : Int} {ns : List Int} {L L1 L2 : List Asn} {H : Hp} (h0 : 0 ≤ z0) (h1 : 0 ≤ z1) (h2 : z1 < 2147483647) (h3 : 0 ≤ z2) (h4 : ∀ n ∈ ns, 0 ≤ n)
    (m1 : Pull L1 (own b (.lst [.int z0, .int z1, .int z2, .ref l])) L2) (m2 : Pull L2 (own l (.lst (ns.map V.int))) L) (S : Sep L1 H) : Sep (Bag b :: L) H := by
  have S1 := S.pull m1
  have S2 : Sep ([own b (.lst [.int z0, .int z1, .int z2, .ref l]), own l (.lst (ns.map V.int))] ++ L) H := S1.push2 m2
  exact S2.join.conv fun g a => ⟨z0, z1, z2, l, ns, ⟨h0, h1, h2, h3, h4⟩, a⟩
def sp__law_take (K : PySem.W.Frag) : Sp := fun vs H Q _ => ∃ (b : Addr) (n : Int) (F : List Asn), vs = [.ref b, .int n] ∧ 0 < n ∧ n ≤ 10000000000000000000000000000000000000000 ∧ Sep (Bag b :: F) H ∧ ∀ r H', 0 ≤ r → r < n → Sep (Bag b :: F) H' → Q (.int r) H'
theorem c_take {b : Addr} {n : Int} {L L' : List Asn} {H : Hp} {Q : VK} {E : XK} (m : Pull L (Bag b) L') (S : Sep L H) (h : 0 < n) (h2 : n ≤ 10000000000000000000000000000000000000000) (q : ∀ r H', 0 ≤ r → r < n → Sep (Bag b :: L') H' → Q (.int r) H') : sp__law_take K ([.ref b, .int n] ++ []) H Q E :=
  ⟨b, n, L', rfl, h, h2, S.pull m, q⟩
theorem w_augS {D : Ends} {σ : L2.St} {H : Hp} {to ti te : TE} {tget : V → V → Hp → VK → Prop} {tip : TIp} {tset : TSet} (h : to σ H fun o H1 => ti σ H1 fun i H2 => tget o i H2 fun x H3 => te σ H3 fun y H4 => tip x y H4 fun z H5 => tset o i z H5 fun H6 => D.nx σ H6) : tAugS to ti te tget tip tset D σ H := h
theorem w_getL {p : Addr} {xs : List V} {v : V} {j : Int} {H : Hp} {Q : VK} (hs : SqL K H p xs) (h0 : 0 ≤ j) (h : xs[j.toNat]? = some v) (k : Q v H) : rGetL K (.ref p) (.int j) H Q := ⟨p, xs, j, v, rfl, rfl, h0, hs, h, k⟩
set_option hygiene false in
local macro_rules | `(tactic| walk_at "w2") => `(tactic| first
  | (with_reducible refine w_augS ?_)
  | (with_reducible refine w_ipI ?_)
  | (with_reducible refine c_whole ?_)
  | ((with_reducible refine' w_getL ?k1 ?k2 ?k3 ?_); (case k1 => walk_at "sq"); (case k2 => decide); (case k3 => rfl)))

theorem get_ints {ns : List Int} {j : Int} (h0 : 0 ≤ j) (h : j < ((ns.map V.int).length : Int)) : ∃ n ∈ ns, atI (ns.map V.int) j = some (.int n) := by
  rw [List.length_map] at h
  have hj : j.toNat < ns.length := by omega
  refine ⟨ns[j.toNat], List.getElem_mem hj, ?_⟩
  exact at_of (j := j.toNat) (by omega) (by rw [List.getElem?_map, List.getElem?_eq_getElem hj]; rfl)
theorem sc__law_take : FnScope ["_law_bag_here", "_law_many", "_law_first", "_law_second", "_law_cell", "_law_value"] ["_law_bag_here", "_law_many"] (defScope s__law_take) := ⟨rfl, rfl, rfl, by decide +kernel, rfl, by decide +kernel, by decide +kernel⟩
set_option maxHeartbeats 4000000 in
theorem g__law_take (T : Tx K mg) : GFn P w K mg base CX0 "_law_take" 1 ["_law_bag_here", "_law_many"] (sp__law_take K) := by
  obtain ⟨fd, FD⟩ := T.says.def_ 5 (d := d__law_take) rfl
  refine ⟨_, fd, ok0 FD sc__law_take (fun vs H Q E h => ?_) (fun cdv A outer s H vs Q E hr h => ?_), T_g__law_take T, FD.kp, FD.bindsN fun _ _ _ _ _ _ us hl => match us, hl with | [_, _], _ => rfl⟩
  · obtain ⟨b, n, F, rfl, hn, hn2, S, q⟩ := h
    rfl
  · obtain ⟨b, n, F, rfl, hn, hn2, S, q⟩ := h
    refine ⟨_, (Lo.pss_cut (ps_if (pt_cmpR op_eq (pe_ix ix_list (pv 0) pe_int (fun _ _ => rfl)) pe_int (nomark _))
      (pss_cons (ps_set (i := 4) sc__law_take.nd rfl (Or.inl rfl) pe_int)
    (pss_cons (ps_if (pt_cmpR op_lt (pe_ix ix_list (pv 0) pe_int (fun _ _ => rfl)) (pe_callB n_len_seq (by rfl) (T_len T) (by decide +kernel) (pa_cons (pe_ix ix_list (pv 0) pe_int (fun _ _ => rfl)) pa_nil)) (nomark _))
      (pss_one (ps_set (i := 4) sc__law_take.nd rfl (Or.inl rfl) (pe_ix ix_list (pe_ix ix_list (pv 0) pe_int (fun _ _ => rfl)) (pe_ix ix_list (pv 0) pe_int (fun _ _ => rfl)) (fun _ _ => rfl))))
      pss_nil)
    (pss_cons (ps_augL (pv 0) pe_int pe_int ip_add)
    (pss_cons (ps_if (pt_cmpR op_ge (pv 4) pe_int (nomark _))
      (pss_one (ps_asg (pv 4) (pg_sub (pv 0) pe_int set_list)))
      pss_nil)
    (pss_one (ps_asg (pe_op op_mod (pe_op op_add (pe_op op_add (pe_op op_mul (pe_ix ix_list (pv 0) pe_int (fun _ _ => rfl)) pe_int) (pe_op op_mod (pv 4) pe_int)) (pe_op op_mul pe_int (pe_ix ix_list (pv 0) pe_int (fun _ _ => rfl)))) pe_int) (pg_sub (pv 0) pe_int set_list)))))))
      pss_nil)
    (pss_cons (ps_if (pt_cmpR op_gt (pe_ix ix_list (pv 0) pe_int (fun _ _ => rfl)) pe_int (nomark _))
      (pss_cons (ps_set (i := 5) sc__law_take.nd rfl (Or.inl rfl) (pe_op op_mod (pe_ix ix_list (pv 0) pe_int (fun _ _ => rfl)) (pv 1)))
    (pss_cons (ps_asg (pe_op op_fdivW (pe_ix ix_list (pv 0) pe_int (fun _ _ => rfl)) (pv 1)) (pg_sub (pv 0) pe_int set_list))
    (pss_one (ps_ret (pv 5)))))
      pss_nil)
    (pss_cons (ps_set (i := 2) sc__law_take.nd rfl (Or.inl rfl) (pe_op op_mod (pe_op op_mul (pe_op op_add (pe_ix ix_list (pv 0) pe_int (fun _ _ => rfl)) pe_int) pe_int) pe_int))
    (pss_cons (ps_set (i := 3) sc__law_take.nd rfl (Or.inl rfl) (pe_op op_mod (pe_op op_mul (pe_op op_mod (pe_op op_mul (pv 2) (pv 2)) pe_int) pe_int) pe_int))
    (pss_cons (ps_if (pt_cmpR op_gt (pv 1) pe_int (nomark _))
      (pss_one (ps_ret (pe_op op_mod (pe_op op_add (pe_op op_mul (pv 3) pe_int) (pv 2)) (pv 1))))
      pss_nil)
    (pss_one (ps_ret (pe_op op_mod (pe_op op_fdiv (pv 3) pe_int) (pv 1))))))))), ?_⟩
    walk_at "start"
    refine w_cut (fun σ' H' => ∃ c, σ' = [some (.ref b), some (.int n), none, none, c, none] ∧ Sep (Bag b :: F) H') ?_ ?_
    · obtain ⟨z0, z1, z2, l, ns, h0, h1, h2, h3, h4, S⟩ := Bag.open S
      walk_at "w"
      refine w_dec (fun hz => ?_) (fun hz => ?_)
      · walk_at "w"
        have rest : ∀ (c : Int) (H : Hp), 0 ≤ c → Sep (own b (.lst [.int z0, .int z1, .int z2, .ref l]) :: own l (.lst (ns.map V.int)) :: F) H →
            tSeq (tAugS (tVar 0) (tC (V.int 2)) (tC (V.int 1)) (rGetL K) (ipI fun i j => i + j) rSetL)
              (tSeq (tIfS (tTest (tOp (rI0 fun i j => V.bl (decide (j ≤ i))) (tVar 4) (tC (V.int 1000000000000000000)))) (tAsg (tVar 4) (gSub (tVar 0) (tC (V.int 0)) rSetL)) tNext)
                (tAsg (tOp (rI (fun x j => 0 < j) fun i j => V.int (i % j)) (tOp (rI0 fun i j => V.int (i + j)) (tOp (rI0 fun i j => V.int (i + j)) (tOp (rI CMul fun i j => V.int (i * j)) (tOp (rIxL K) (tVar 0) (tC (V.int 1))) (tC (V.int 48271)))
                  (tOp (rI (fun x j => 0 < j) fun i j => V.int (i % j)) (tVar 4) (tC (V.int 2147483647)))) (tOp (rI CMul fun i j => V.int (i * j)) (tC (V.int 7919)) (tOp (rIxL K) (tVar 0) (tC (V.int 2))))) (tC (V.int 2147483647))) (gSub (tVar 0) (tC (V.int 1)) rSetL)))
              { nx := fun σ' H' => ∃ c, σ' = [some (V.ref b), some (V.int n), none, none, c, none] ∧ Sep (Bag b :: F) H', rt := Q } [some (.ref b), some (.int n), none, none, some (.int c), none] H := by
          intro c H hc S
          walk_at "w"
          refine w_dec (fun hz => ?_) (fun hz => ?_)
          all_goals walk_at "w"
          all_goals (refine ⟨_, rfl, ?_⟩; refine Bag.shut ?_ ?_ ?_ ?_ h4 (by walk_at "pull") (by walk_at "pull") S)
          all_goals omega
        refine w_dec (fun hl => ?_) (fun hl => ?_)
        · obtain ⟨c, hc, ec⟩ := get_ints h3 hl
          walk_at "w"
          refine w_ixL (by walk_at "sq") ec ?_
          exact rest c H (h4 c hc) S
        · exact rest 0 H (Int.le_refl 0) S
      · exact ⟨none, rfl, Bag.shut h0 h1 h2 h3 h4 .here .here S⟩
    · rintro σ' H' ⟨c, rfl, S⟩
      obtain ⟨z0, z1, z2, l, ns, h0, h1, h2, h3, h4, S⟩ := Bag.open S
      walk_at "w"
      refine w_dec (fun hz => ?_) (fun hz => ?_)
      · walk_at "w"
        refine w_rI (wide_div hn (b := 140) (by omega) (by decide) (by decide)) ?_
        walk_at "w"
        have hd : 0 ≤ z0 / n := Int.ediv_nonneg h0 (by omega)
        exact q _ _ (Int.emod_nonneg _ (by omega)) (Int.emod_lt_of_pos _ hn) (Bag.shut hd h1 h2 h3 h4 (by walk_at "pull") (by walk_at "pull") S)
      · walk_at "w"
        have b1 := Int.emod_nonneg ((z1 + 1) * 39373) (b := 1000000007) (by decide)
        have b2 := Int.emod_lt_of_pos ((z1 + 1) * 39373) (b := 1000000007) (by decide)
        have b3 := Int.emod_nonneg ((z1 + 1) * 39373 % 1000000007 * ((z1 + 1) * 39373 % 1000000007) % 998244353 * 30011) (b := 998244353) (by decide)
        have b4 := Int.emod_lt_of_pos ((z1 + 1) * 39373 % 1000000007 * ((z1 + 1) * 39373 % 1000000007) % 998244353 * 30011) (b := 998244353) (by decide)
        generalize (z1 + 1) * 39373 % 1000000007 = f1 at *
        generalize f1 * f1 % 998244353 * 30011 % 998244353 = f2 at *
        refine w_dec (fun hm => ?_) (fun hm => ?_)
        · walk_at "w"
          exact q _ _ (Int.emod_nonneg _ (by omega)) (Int.emod_lt_of_pos _ hn) (Bag.shut h0 h1 h2 h3 h4 (by walk_at "pull") (by walk_at "pull") S)
        · walk_at "w"
          exact q _ _ (Int.emod_nonneg _ (by omega)) (Int.emod_lt_of_pos _ hn) (Bag.shut h0 h1 h2 h3 h4 (by walk_at "pull") (by walk_at "pull") S)
/-- the script's cells without their signs -/
def sp__law_bag (K : PySem.W.Frag) : Sp := fun vs H Q _ => ∃ (a : Addr) (ns : List Int) (F : List Asn), vs = [.ref a] ∧ SqL K H a (ns.map V.int) ∧ ns.length ≤ 63 ∧ (∀ H', Sep F H' → SqL K H' a (ns.map V.int)) ∧ Sep F H ∧ ∀ b H', Sep (Bag b :: F) H' → Q (.ref b) H'
theorem abs_all {acc : List Int} (h : ∀ n ∈ acc, 0 ≤ n) (z : Int) : ∀ n ∈ acc ++ [if z < 0 then -z else z], 0 ≤ n := by
  intro n hn
  rcases List.mem_append.mp hn with hn | hn
  · exact h n hn
  · rw [List.mem_singleton.mp hn]
    split <;> omega
theorem sc__law_bag : FnScope ["_law_script", "_law_cell"] ["_law_script"] (defScope s__law_bag) := ⟨rfl, rfl, rfl, by decide +kernel, rfl, by decide +kernel, by decide +kernel⟩
set_option maxHeartbeats 4000000 in
theorem g__law_bag (T : Tx K mg) : GFn P w K mg base CX0 "_law_bag" 1 ["_law_script"] (sp__law_bag K) := by
  obtain ⟨fd, FD⟩ := T.says.def_ 4 (d := d__law_bag) rfl
  refine ⟨_, fd, ok0 FD sc__law_bag (fun vs H Q E h => ?_) (fun cdv A outer s H vs Q E hr h => ?_), T_g__law_bag T, FD.kp, FD.bindsN fun _ _ _ _ _ _ us hl => match us, hl with | [_], _ => rfl⟩
  · obtain ⟨a, ns, F, rfl, hS, hl, hst, S, q⟩ := h
    rfl
  · obtain ⟨a, ns, F, rfl, hS, hl, hst, S, q⟩ := h
    refine ⟨_, (pss_one (ps_ret (pe_lst (pa_cons pe_int (pa_cons pe_int (pa_cons pe_int (pa_cons (pe_lc (own := [("_law_cell", 1)]) (g := gName 1) (by rfl) sc__law_bag.nd (pi_list (pe_slice sl_list (pv 0) po_none (po_some pe_int))) (blkOk_by (own := [("_law_cell", 1)]) (N := ["_law_script", "_law_cell"]) (sc := defScope s__law_bag) (by decide +kernel)) (fun _ _ _ _ _ => pg_name (i := 1) sc__law_bag.nd rfl (Or.inl rfl)) (fun _ _ _ _ _ => pts_nil) (fun _ _ _ _ _ => (pe_callB n_abs (by rfl) (T_abs T) (by decide +kernel) (pa_cons (pv 1) pa_nil)))) pa_nil))))))), ?_⟩
    walk_at "start"
    walk_at "w"
    have ec : cutV (ns.map V.int) none (some 63) = ns.map V.int := by
      unfold cutV
      rw [HT.sIx_none, show HT.sIx (ns.map V.int).length (ns.map V.int).length (some 63) = min 63 (ns.map V.int).length from HT.sIx_nat _ _ 63, List.drop_zero, Nat.sub_zero, List.length_map, Nat.min_eq_right hl, ← List.length_map (f := V.int), List.take_length]
    rw [ec] at S
    refine w_lcL (xs := ns.map V.int) S (fun i acc M => M = own pn (.lst (ns.map V.int)) :: F ∧ ∃ ms : List Int, acc = ms.map V.int ∧ ms.length = i ∧ ∀ n ∈ ms, 0 ≤ n) ⟨rfl, [], rfl, rfl, fun _ h => by cases h⟩ ?_ ?_ ?_
    · rintro i acc M H' hi ⟨rfl, _⟩ S
      walk_at "sq"
    · rintro D i x acc M H' hx ⟨rfl, ms, rfl, hm, hp⟩ S
      obtain ⟨z, hz, rfl⟩ : ∃ z, ns[i]? = some z ∧ V.int z = x := by
        rw [List.getElem?_map] at hx
        exact Option.map_eq_some_iff.mp hx
      walk_at "w"
      refine ⟨rfl, ?_⟩
      walk_at "w"
      refine LcT.mk (by walk_at "pull") S (by have := (List.getElem?_eq_some_iff.mp hx).1; rw [List.length_map] at this ⊢; rw [sizeLine_eq]; omega) ⟨rfl, ms ++ [if z < 0 then -z else z], by rw [List.map_append]; rfl, by rw [List.length_append, hm]; rfl, abs_all hp z⟩
    · rintro D acc M H' ⟨rfl, ms, rfl, hm, hp⟩ S
      walk_at "w"
      exact q _ _ (Bag.shut (z0 := 0) (z1 := 1234567891) (z2 := 0) (by decide) (by decide) (by decide) (by decide) hp (by walk_at "pull") (by walk_at "pull") S).drop2


/-! ### kinds, the pool -/
def sp_is_whole (K : PySem.W.Frag) : Sp := fun vs H Q _ => ∃ i : Int, vs = [.int i] ∧ Q (.bl true) H
theorem sc_is_whole : FnScope ["thing"] ["thing"] (defScope s_is_whole) := ⟨rfl, rfl, rfl, by decide +kernel, rfl, by decide +kernel, by decide +kernel⟩
set_option maxHeartbeats 4000000 in
theorem g_is_whole (T : Tx K mg) : GFn P w K mg base CX0 "is_whole" 1 ["thing"] (sp_is_whole K) := by
  obtain ⟨fd, FD⟩ := T.says.def_ 0 (d := d_is_whole) rfl
  refine ⟨_, fd, ok0 FD sc_is_whole (fun vs H Q E h => ?_) (fun cdv A outer s H vs Q E hr h => ?_), T_g_is_whole T, FD.kp, FD.bindsN fun _ _ _ _ _ _ us hl => match us, hl with | [_], _ => rfl⟩
  · obtain ⟨i, rfl, q⟩ := h
    rfl
  · obtain ⟨i, rfl, q⟩ := h
    refine ⟨_, (pss_one (ps_ret (pe_and (pe_callB call_isi (by rfl) (T_isinstance T) (by decide +kernel) (pa_cons (pv 0) (pa_cons (pe_bltn (v := .ty "int") (by rfl) (T_int T) (by decide +kernel) rfl) pa_nil))) (pe_one (pe_not (pe_callB call_isi (by rfl) (T_isinstance T) (by decide +kernel) (pa_cons (pv 0) (pa_cons (pe_bltn (v := .ty "bool") (by rfl) (T_bool T) (by decide +kernel) rfl) pa_nil)))))))), ?_⟩
    walk_at "start"
    walk_at "w"
    exact q
theorem c_is_whole {i : Int} {H : Hp} {Q : VK} {E : XK} (q : Q (.bl true) H) : sp_is_whole K ([.int i] ++ []) H Q E := ⟨i, rfl, q⟩
def sp_is_between (K : PySem.W.Frag) : Sp := fun vs H Q _ => ∃ i a b : Int, vs = [.int i, .int a, .int b] ∧ a ≤ i ∧ i ≤ b ∧ Q (.bl true) H
theorem sc_is_between : FnScope ["thing", "least", "most"] ["thing", "least", "most"] (defScope s_is_between) := ⟨rfl, rfl, rfl, by decide +kernel, rfl, by decide +kernel, by decide +kernel⟩
set_option maxHeartbeats 4000000 in
theorem g_is_between (T : Tx K mg) : GFn P w K mg base CX0 "is_between" 2 ["thing", "least", "most"] (sp_is_between K) := by
  obtain ⟨fd, FD⟩ := T.says.def_ 1 (d := d_is_between) rfl
  obtain ⟨f_is_whole, fd_is_whole, F_is_whole, m_is_whole, k_is_whole, b_is_whole⟩ := g_is_whole (P := P) (w := w) (base := base) T
  refine ⟨_, fd, ok0 FD sc_is_between (fun vs H Q E h => ?_) (fun cdv A outer s H vs Q E hr h => ?_), T_g_is_between T, FD.kp, FD.bindsN fun _ _ _ _ _ _ us hl => match us, hl with | [_, _, _], _ => rfl⟩
  · obtain ⟨i, a, b, rfl, h1, h2, q⟩ := h
    rfl
  · obtain ⟨i, a, b, rfl, h1, h2, q⟩ := h
    refine ⟨_, (pss_one (ps_ret (pe_and (pe_call F_is_whole (hr.mono (by decide)) (by rfl) m_is_whole k_is_whole b_is_whole .nil pass0 (pa_cons (pv 0) pa_nil)) (pe_one (pe_chain op_le op_le (pv 1) (pv 0) (pv 2)))))), ?_⟩
    walk_at "start"
    walk_at "w"
    refine c_is_whole ?_
    walk_at "w"
    rw [decide_eq_true h1]
    walk_at "w"
    rw [decide_eq_true h2]
    exact q
theorem c_is_between {i a b : Int} {H : Hp} {Q : VK} {E : XK} (h1 : a ≤ i) (h2 : i ≤ b) (q : Q (.bl true) H) : sp_is_between K ([.int i, .int a, .int b] ++ []) H Q E := ⟨i, a, b, rfl, h1, h2, q⟩
def sp_is_content (K : PySem.W.Frag) : Sp := fun vs H Q _ => ∃ i : Int, vs = [.int i] ∧ 0 ≤ i ∧ i ≤ 1000000000 ∧ Q (.bl true) H
theorem sc_is_content : FnScope ["thing"] ["thing"] (defScope s_is_content) := ⟨rfl, rfl, rfl, by decide +kernel, rfl, by decide +kernel, by decide +kernel⟩
set_option maxHeartbeats 4000000 in
theorem g_is_content (T : Tx K mg) : GFn P w K mg base CX0 "is_content" 3 ["thing"] (sp_is_content K) := by
  obtain ⟨fd, FD⟩ := T.says.def_ 2 (d := d_is_content) rfl
  obtain ⟨f_is_between, fd_is_between, F_is_between, m_is_between, k_is_between, b_is_between⟩ := g_is_between (P := P) (w := w) (base := base) T
  refine ⟨_, fd, ok0 FD sc_is_content (fun vs H Q E h => ?_) (fun cdv A outer s H vs Q E hr h => ?_), T_g_is_content T, FD.kp, FD.bindsN fun _ _ _ _ _ _ us hl => match us, hl with | [_], _ => rfl⟩
  · obtain ⟨i, rfl, h1, h2, q⟩ := h
    rfl
  · obtain ⟨i, rfl, h1, h2, q⟩ := h
    refine ⟨_, (pss_one (ps_ret (pe_call F_is_between (hr.mono (by decide)) (by rfl) m_is_between k_is_between b_is_between .nil pass0 (pa_cons (pv 0) (pa_cons pe_int (pa_cons (pe_gc (by rfl) (T_c_MOST_CONTENT T)) pa_nil)))))), ?_⟩
    walk_at "start"
    walk_at "w"
    exact c_is_between h1 h2 q
theorem c_is_content {i : Int} {H : Hp} {Q : VK} {E : XK} (h1 : 0 ≤ i) (h2 : i ≤ 1000000000) (q : Q (.bl true) H) : sp_is_content K ([.int i] ++ []) H Q E := ⟨i, rfl, h1, h2, q⟩
set_option hygiene false in
local macro_rules | `(tactic| walk_at "w2") => `(tactic| first
  | (with_reducible refine c_is_whole ?_))

def fsP (room : Int) (d1 d2 : Addr) : List (PySem.Str × V) := [("room_for", .int room), ("told_of", .ref d1), ("times_of", .ref d2)]
/-- a pool: the kept grains in the order in which they came, what each has, how often it is held -/
def PoolAt (K : PySem.W.Frag) (p : Addr) (room : Int) (ks : List Int) (c t : Int → Int) : Asn := fun g => ∃ d1 d2 : Addr, Stars [inst p (He.ga K "Pool") (fsP room d1 d2), own d1 (.dK (tab ks fun k => .int (c k))), own d2 (.dK (tab ks fun k => .int (t k)))] g
theorem PoolAt.open {p : Addr} {room : Int} {ks : List Int} {c t : Int → Int} {L : List Asn} {H : Hp} (S : Sep (PoolAt K p room ks c t :: L) H) :
    ∃ d1 d2 : Addr, Sep (inst p (He.ga K "Pool") (fsP room d1 d2) :: own d1 (.dK (tab ks fun k => .int (c k))) :: own d2 (.dK (tab ks fun k => .int (t k))) :: L) H := by
  obtain ⟨d1, S⟩ := S.ex
  obtain ⟨d2, S⟩ := S.ex
  exact ⟨d1, d2, S.split⟩
theorem PoolAt.shut {p d1 d2 : Addr} {room : Int} {ks : List Int} {c t : Int → Int} {L L1 L2 L3 : List Asn} {H : Hp} (m1 : Pull L1 (inst p (He.ga K "Pool") (fsP room d1 d2)) L2) (m2 : Pull L2 (own d1 (.dK (tab ks fun k => .int (c k)))) L3)
    (m3 : Pull L3 (own d2 (.dK (tab ks fun k => .int (t k)))) L) (S : Sep L1 H) : Sep (PoolAt K p room ks c t :: L) H := by
  have S2 : Sep ([inst p (He.ga K "Pool") (fsP room d1 d2), own d1 (.dK (tab ks fun k => .int (c k))), own d2 (.dK (tab ks fun k => .int (t k)))] ++ L) H := ((S.pull m1).push2 m2).push3 m3
  exact S2.join.conv fun g a => ⟨d1, d2, a⟩
theorem PoolAt.congr {p : Addr} {room : Int} {ks : List Int} {c c' t t' : Int → Int} (h : ∀ k ∈ ks, c k = c' k) (h2 : ∀ k ∈ ks, t k = t' k) : PoolAt K p room ks c t = PoolAt K p room ks c' t' := by
  unfold PoolAt
  rw [tab_congr (f := fun k => V.int (c k)) (f' := fun k => V.int (c' k)) fun k hk => by rw [h k hk], tab_congr (f := fun k => V.int (t k)) (f' := fun k => V.int (t' k)) fun k hk => by rw [h2 k hk]]
theorem w_recvP {p : Addr} {room : Int} {ks : List Int} {c t : Int → Int} {L L' : List Asn} {H : Hp} {mn : PySem.Str} {G : Prop} (m : Pull L (PoolAt K p room ks c t) L') (S : Sep L H) (hl : ∀ d1 d2, (fsP room d1 d2).lookup mn = none) (h : G) :
    ∃ a dx fs, V.ref p = .ref a ∧ H a = some (.ins (He.ga K "Pool") dx fs) ∧ fs.lookup mn = none ∧ G := by
  obtain ⟨d1, d2, S⟩ := PoolAt.open (S.pull m)
  obtain ⟨dx, e⟩ := S.inst .here
  exact ⟨p, dx, _, rfl, e, hl d1 d2, h⟩
set_option hygiene false in
local macro_rules | `(tactic| walk_at "w2") => `(tactic| first
  | ((with_reducible refine' w_recvP ?k1 S ?k2 ?_); (case k1 => walk_at "pull"); (case k2 => exact fun _ _ => rfl)))

def sp_Pool___init__ (K : PySem.W.Frag) : Sp := fun vs H Q _ => ∃ (p : Addr) (room : Int) (F : List Asn), vs = [.ref p, .int room] ∧ 1 ≤ room ∧ room ≤ 120 ∧ Sep (inst p (He.ga K "Pool") [] :: F) H ∧
  ∀ H', Sep (PoolAt K p room [] (fun _ => 0) (fun _ => 0) :: F) H' → Q .non H'
theorem sc_Pool___init__ : FnScope ["self", "room"] ["self", "room"] (defScope s_Pool___init__) := ⟨rfl, rfl, rfl, by decide +kernel, rfl, by decide +kernel, by decide +kernel⟩
set_option maxHeartbeats 4000000 in
theorem g_Pool___init__ (T : Tx K mg) : GMk P w K mg base CX0 "Pool" (He.ga K "Pool") 3 ["self", "room"] (sp_Pool___init__ K) := by
  obtain ⟨fd, FD⟩ := T.says.def_ 14 (d := d_Pool___init__) rfl
  obtain ⟨f_is_between, fd_is_between, F_is_between, m_is_between, k_is_between, b_is_between⟩ := g_is_between (P := P) (w := w) (base := base) T
  refine ⟨_, fd, ok0 FD sc_Pool___init__ (fun vs H Q E h => ?_) (fun cdv A outer s H vs Q E hr h => ?_), T_mk_Pool T, T_g_Pool T, FD.bindsN fun _ _ _ _ _ _ us hl => match us, hl with | [_, _], _ => rfl⟩
  · obtain ⟨p, room, F, rfl, h1, h2, S, q⟩ := h
    rfl
  · obtain ⟨p, room, F, rfl, h1, h2, S, q⟩ := h
    refine ⟨_, (pss_cons (ps_if (pt_not (pt_val (pe_call F_is_between (hr.mono (by decide)) (by rfl) m_is_between k_is_between b_is_between .nil pass0 (pa_cons (pv 1) (pa_cons pe_int (pa_cons (pe_gc (by rfl) (T_c_MOST_ROOM T)) pa_nil))))))
      (pss_one ps_never)
      pss_nil)
    (pss_cons (ps_fld (pv 0) (pv 1) rfl)
    (pss_cons (ps_fld (pv 0) pe_dnewK rfl)
    (pss_one (ps_fld (pv 0) pe_dnewK rfl))))), ?_⟩
    have hc := T_cl_Pool T
    have n1 := T_n_Pool_room_for T
    have n2 := T_n_Pool_told_of T
    have n3 := T_n_Pool_times_of T
    walk_at "start"
    walk_at "w"
    refine c_is_between h1 h2 ?_
    walk_at "w"
    exact q _ (PoolAt.shut (ks := []) (c := fun _ => 0) (t := fun _ => 0) (room := room) (by walk_at "pullD") (by walk_at "pullD") (by walk_at "pullD") S)
theorem c_Pool {p : Addr} {room : Int} {L L' : List Asn} {H : Hp} {Q : VK} {E : XK} (h1 : 1 ≤ room) (h2 : room ≤ 120) (m : Pull L (inst p (He.ga K "Pool") []) L') (S : Sep L H) (q : ∀ H', Sep (PoolAt K p room [] (fun _ => 0) (fun _ => 0) :: L') H' → Q .non H') :
    sp_Pool___init__ K (.ref p :: ([.int room] ++ [])) H Q E := ⟨p, room, L', rfl, h1, h2, S.pull m, q⟩
def sp_Pool_need_grain (K : PySem.W.Frag) : Sp := fun vs H Q _ => ∃ (p : Addr) (g room : Int) (ks : List Int) (c t : Int → Int) (F : List Asn), vs = [.ref p, .int g] ∧ 0 ≤ g ∧ g ∈ ks ∧ Sep (PoolAt K p room ks c t :: F) H ∧ Q .non H
theorem sc_Pool_need_grain : FnScope ["self", "grain"] ["self", "grain"] (defScope s_Pool_need_grain) := ⟨rfl, rfl, rfl, by decide +kernel, rfl, by decide +kernel, by decide +kernel⟩
set_option maxHeartbeats 4000000 in
theorem g_Pool_need_grain (T : Tx K mg) : GMt P w K mg base CX0 (He.ga K "Pool") "need_grain" 2 ["self", "grain"] (sp_Pool_need_grain K) := by
  obtain ⟨fd, FD⟩ := T.says.def_ 15 (d := d_Pool_need_grain) rfl
  obtain ⟨f_is_whole, fd_is_whole, F_is_whole, m_is_whole, k_is_whole, b_is_whole⟩ := g_is_whole (P := P) (w := w) (base := base) T
  refine ⟨_, fd, ok0 FD sc_Pool_need_grain (fun vs H Q E h => ?_) (fun cdv A outer s H vs Q E hr h => ?_), T_m_Pool_need_grain T, FD.bindsN fun _ _ _ _ _ _ us hl => match us, hl with | [_, _], _ => rfl⟩
  · obtain ⟨p, g, room, ks, c, t, F, rfl, h0, hg, S, q⟩ := h
    rfl
  · obtain ⟨p, g, room, ks, c, t, F, rfl, h0, hg, S, q⟩ := h
    refine ⟨_, (pss_cons (ps_if (PW.pt (pw_or (pt_not (pt_val (pe_call F_is_whole (hr.mono (by decide)) (by rfl) m_is_whole k_is_whole b_is_whole .nil pass0 (pa_cons (pv 1) pa_nil)))) (pw_or1 (pt_cmpR op_lt (pv 1) pe_int (nomark _)))))
      (pss_one ps_never)
      pss_nil)
    (pss_one (ps_if (pt_cmp (pc_dnotin (hu_of hr) (pv 1) (pe_fld (pv 0) rfl)))
      (pss_one ps_never)
      pss_nil))), ?_⟩
    have hc := T_cl_Pool T
    have n2 := T_n_Pool_told_of T
    obtain ⟨d1, d2, S⟩ := PoolAt.open S
    walk_at "start"
    walk_at "w"
    rw [decide_eq_false (show ¬ g < 0 by omega)]
    walk_at "w"
    rw [valV_some, decide_eq_true hg]
    walk_at "w"
    exact q
theorem c_need {p : Addr} {g room : Int} {ks : List Int} {c t : Int → Int} {L L' : List Asn} {H : Hp} {Q : VK} {E : XK} (h0 : 0 ≤ g) (hg : g ∈ ks) (m : Pull L (PoolAt K p room ks c t) L') (S : Sep L H) (q : Q .non H) :
    sp_Pool_need_grain K (.ref p :: ([.int g] ++ [])) H Q E := ⟨p, g, room, ks, c, t, L', rfl, h0, hg, S.pull m, q⟩
theorem set1_int {c : Int → Int} {g v : Int} : (fun k => V.int (set1 c g v k)) = set1 (fun k => V.int (c k)) g (.int v) := by
  funext k
  unfold set1
  split <;> rfl
theorem set1_ref {a : Int → Addr} {g : Int} {q : Addr} : (fun k => V.ref (set1 a g q k)) = set1 (fun k => V.ref (a k)) g (.ref q) := by
  funext k
  unfold set1
  split <;> rfl
def sp_Pool_lay (K : PySem.W.Frag) : Sp := fun vs H Q _ => ∃ (p : Addr) (z room : Int) (ks : List Int) (c t : Int → Int) (F : List Asn), vs = [.ref p, .int z] ∧ 0 ≤ z ∧ z ≤ 1000000000 ∧ (ks.length : Int) < room ∧ room ≤ 120 ∧ Sep (PoolAt K p room ks c t :: F) H ∧
  ∀ g H', Least ks g → Sep (PoolAt K p room (ks ++ [g]) (set1 c g z) (set1 t g 1) :: F) H' → Q (.int g) H'
theorem sc_Pool_lay : FnScope ["self", "content", "grain"] ["self", "content"] (defScope s_Pool_lay) := ⟨rfl, rfl, rfl, by decide +kernel, rfl, by decide +kernel, by decide +kernel⟩
set_option maxHeartbeats 4000000 in
theorem g_Pool_lay (T : Tx K mg) : GMt P w K mg base CX0 (He.ga K "Pool") "lay" 4 ["self", "content"] (sp_Pool_lay K) := by
  obtain ⟨fd, FD⟩ := T.says.def_ 16 (d := d_Pool_lay) rfl
  obtain ⟨f_is_content, fd_is_content, F_is_content, m_is_content, k_is_content, b_is_content⟩ := g_is_content (P := P) (w := w) (base := base) T
  refine ⟨_, fd, ok0 FD sc_Pool_lay (fun vs H Q E h => ?_) (fun cdv A outer s H vs Q E hr h => ?_), T_m_Pool_lay T, FD.bindsN fun _ _ _ _ _ _ us hl => match us, hl with | [_, _], _ => rfl⟩
  · obtain ⟨p, z, room, ks, c, t, F, rfl, h0, h1, hr1, hr2, S, q⟩ := h
    rfl
  · obtain ⟨p, z, room, ks, c, t, F, rfl, h0, h1, hr1, hr2, S, q⟩ := h
    refine ⟨_, (pss_cons (ps_if (pt_not (pt_val (pe_call F_is_content (hr.mono (by decide)) (by rfl) m_is_content k_is_content b_is_content .nil pass0 (pa_cons (pv 1) pa_nil))))
      (pss_one ps_never)
      pss_nil)
    (pss_cons (ps_if (pt_cmpR op_ge (pe_callB n_lenD (by rfl) (T_len T) (by decide +kernel) (pa_cons (pe_fld (pv 0) rfl) pa_nil)) (pe_fld (pv 0) rfl) (nomark _))
      (pss_one ps_never)
      pss_nil)
    (pss_cons (ps_set (i := 2) sc_Pool_lay.nd rfl (Or.inl rfl) pe_int)
    (pss_cons (ps_while PassesOwn.never (pt_cmp (pc_din (hu_of hr) (pv 2) (pe_fld (pv 0) rfl)))
      (pss_one (ps_set (i := 2) sc_Pool_lay.nd rfl (Or.inl rfl) (pe_op op_add (pv 2) pe_int))))
    (pss_cons (ps_dput (hu_of hr) (pe_fld (pv 0) rfl) (pv 2) (pv 1) rfl)
    (pss_cons (ps_dput (hu_of hr) (pe_fld (pv 0) rfl) (pv 2) pe_int rfl)
    (pss_one (ps_ret (pv 2))))))))), ?_⟩
    have hc := T_cl_Pool T
    have n1 := T_n_Pool_room_for T
    have n2 := T_n_Pool_told_of T
    have n3 := T_n_Pool_times_of T
    obtain ⟨d1, d2, S⟩ := PoolAt.open S
    walk_at "start"
    walk_at "w"
    refine c_is_content h0 h1 ?_
    walk_at "w"
    rw [tab_len, decide_eq_false (show ¬ room ≤ (ks.length : Int) by omega)]
    walk_at "w"
    refine w_while (fun m σ H => ∃ g : Nat, σ = [some (.ref p), some (.int z), some (.int g)] ∧ (∀ j : Nat, j < g → (j : Int) ∈ ks) ∧ m = ks.length - g ∧
        Sep (inst p (He.ga K "Pool") (fsP room d1 d2) :: own d1 (.dK (tab ks fun k => .int (c k))) :: own d2 (.dK (tab ks fun k => .int (t k))) :: F) H) ks.length
      ⟨0, rfl, fun _ h => absurd h (Nat.not_lt_zero _), rfl, S⟩ ?_
    rintro m σ H ⟨g, rfl, hb, rfl, S⟩
    walk_at "w"
    rw [valV_some]
    refine w_dec (fun hm => ?_) (fun hm => ?_)
    · have hlen : g + 1 ≤ ks.length := below_len fun j hj => by
        by_cases e : j = g
        · rw [e]; exact hm
        · exact hb j (by omega)
      refine ⟨_, fun _ _ z => z, ?_⟩
      walk_at "w"
      refine ⟨ks.length - (g + 1), by omega, g + 1, rfl, fun j hj => ?_, rfl, S⟩
      by_cases e : j = g
      · rw [e]; exact hm
      · exact hb j (by omega)
    · have hsz : (tab ks fun k => V.int (c k)).length < sizeLine := by rw [tab_len, sizeLine_eq]; omega
      have hsz2 : (tab ks fun k => V.int (t k)).length < sizeLine := by rw [tab_len, sizeLine_eq]; omega
      walk_at "w"
      have S2 := S
      rw [put_new hm, put_new hm, ← set1_int, ← set1_int] at S2
      refine q _ _ ⟨by omega, hm, fun j h0 hj => ?_⟩ (PoolAt.shut (by walk_at "pull") (by walk_at "pull") (by walk_at "pull") S2)
      have := hb j.toNat (by omega)
      rw [Int.toNat_of_nonneg h0] at this
      exact this
theorem c_lay {p : Addr} {z room : Int} {ks : List Int} {c t : Int → Int} {L L' : List Asn} {H : Hp} {Q : VK} {E : XK} (h0 : 0 ≤ z) (h1 : z ≤ 1000000000) (h2 : (ks.length : Int) < room) (h3 : room ≤ 120) (m : Pull L (PoolAt K p room ks c t) L') (S : Sep L H)
    (q : ∀ g H', Least ks g → Sep (PoolAt K p room (ks ++ [g]) (set1 c g z) (set1 t g 1) :: L') H' → Q (.int g) H') : sp_Pool_lay K (.ref p :: ([.int z] ++ [])) H Q E := ⟨p, z, room, ks, c, t, L', rfl, h0, h1, h2, h3, S.pull m, q⟩
def sp_Pool_let_go (K : PySem.W.Frag) : Sp := fun vs H Q _ => ∃ (p : Addr) (g room : Int) (ks : List Int) (c t : Int → Int) (F : List Asn), vs = [.ref p, .int g] ∧ 0 ≤ g ∧ g ∈ ks ∧ ks.length ≤ 120 ∧ Sep (PoolAt K p room ks c t :: F) H ∧
  (t g = 1 → ∀ H', Sep (PoolAt K p room (ks.filter fun k => decide (k ≠ g)) c t :: F) H' → Q (.bl true) H') ∧ (1 < t g → ∀ H', Sep (PoolAt K p room ks c (set1 t g (t g - 1)) :: F) H' → Q (.bl false) H') ∧ 1 ≤ t g
theorem sc_Pool_let_go : FnScope ["self", "grain"] ["self", "grain"] (defScope s_Pool_let_go) := ⟨rfl, rfl, rfl, by decide +kernel, rfl, by decide +kernel, by decide +kernel⟩
set_option maxHeartbeats 4000000 in
theorem g_Pool_let_go (T : Tx K mg) : GMt P w K mg base CX0 (He.ga K "Pool") "let_go" 3 ["self", "grain"] (sp_Pool_let_go K) := by
  obtain ⟨fd, FD⟩ := T.says.def_ 18 (d := d_Pool_let_go) rfl
  obtain ⟨f_Pool_need_grain, fd_Pool_need_grain, F_Pool_need_grain, m_Pool_need_grain, k_Pool_need_grain⟩ := g_Pool_need_grain (P := P) (w := w) (base := base) T
  refine ⟨_, fd, ok0 FD sc_Pool_let_go (fun vs H Q E h => ?_) (fun cdv A outer s H vs Q E hr h => ?_), T_m_Pool_let_go T, FD.bindsN fun _ _ _ _ _ _ us hl => match us, hl with | [_, _], _ => rfl⟩
  · obtain ⟨p, g, room, ks, c, t, F, rfl, h0, hg, hl, S, q1, q2, ht⟩ := h
    rfl
  · obtain ⟨p, g, room, ks, c, t, F, rfl, h0, hg, hl, S, q1, q2, ht⟩ := h
    refine ⟨_, (pss_cons (ps_expr (pe_meth (pv 0) (T_cl_Pool T) m_Pool_need_grain F_Pool_need_grain (hr.mono (by decide)) k_Pool_need_grain .nil pass0 (pa_cons (pv 1) pa_nil)))
    (pss_cons (ps_dput (hu_of hr) (pe_fld (pv 0) rfl) (pv 1) (pe_op op_sub (pe_dget (hu_of hr) (pe_fld (pv 0) rfl) (pv 1) (fun _ _ => rfl)) pe_int) rfl)
    (pss_cons (ps_if (pt_cmpR op_gt (pe_dget (hu_of hr) (pe_fld (pv 0) rfl) (pv 1) (fun _ _ => rfl)) pe_int (nomark _))
      (pss_one (ps_ret pe_bl))
      pss_nil)
    (pss_cons (ps_expr (pe_dpop1 (pe_fld (pv 0) rfl) (pv 1) ⟨rfl, rfl, rfl, rfl⟩))
    (pss_cons (ps_expr (pe_dpop1 (pe_fld (pv 0) rfl) (pv 1) ⟨rfl, rfl, rfl, rfl⟩))
    (pss_one (ps_ret pe_bl))))))), ?_⟩
    have hc := T_cl_Pool T
    have n2 := T_n_Pool_told_of T
    have n3 := T_n_Pool_times_of T
    walk_at "start"
    have S0 := S
    obtain ⟨d1, d2, S⟩ := PoolAt.open S
    walk_at "w"
    refine c_need h0 hg .here S0 ?_
    have hsz2 : (tab ks fun k => V.int (t k)).length < sizeLine := by rw [tab_len, sizeLine_eq]; omega
    walk_at "w"
    rw [put_old hg, ← set1_int] at S
    walk_at "w"
    rw [set1_same]
    refine w_dec (fun hm => ?_) (fun hm => ?_)
    · walk_at "w"
      exact q2 (by omega) _ (PoolAt.shut (by walk_at "pull") (by walk_at "pull") (by walk_at "pull") S)
    · walk_at "w"
      refine w_dpopI (by walk_at "pull") S (valV_in' hg) fun H S => ?_
      walk_at "w"
      refine w_dpopI (by walk_at "pull") S (valV_in' hg) fun H S => ?_
      rw [drop_tab, drop_tab] at S
      rw [tab_congr (f := fun k => V.int (set1 t g (t g - 1) k)) (f' := fun k => V.int (t k)) fun k hk => by rw [set1_ne (mem_filter_ne.mp hk).2]] at S
      walk_at "w"
      exact q1 (by omega) _ (PoolAt.shut (by walk_at "pull") (by walk_at "pull") (by walk_at "pull") S)
theorem c_let_go {p : Addr} {g room : Int} {ks : List Int} {c t : Int → Int} {L L' : List Asn} {H : Hp} {Q : VK} {E : XK} (h0 : 0 ≤ g) (hg : g ∈ ks) (hl : ks.length ≤ 120) (ht : 1 ≤ t g) (m : Pull L (PoolAt K p room ks c t) L') (S : Sep L H)
    (q1 : t g = 1 → ∀ H', Sep (PoolAt K p room (ks.filter fun k => decide (k ≠ g)) c t :: L') H' → Q (.bl true) H') (q2 : 1 < t g → ∀ H', Sep (PoolAt K p room ks c (set1 t g (t g - 1)) :: L') H' → Q (.bl false) H') :
    sp_Pool_let_go K (.ref p :: ([.int g] ++ [])) H Q E := ⟨p, g, room, ks, c, t, L', rfl, h0, hg, hl, S.pull m, q1, q2, ht⟩
def sp_Pool_content_of (K : PySem.W.Frag) : Sp := fun vs H Q _ => ∃ (p : Addr) (g room : Int) (ks : List Int) (c t : Int → Int) (F : List Asn), vs = [.ref p, .int g] ∧ 0 ≤ g ∧ g ∈ ks ∧ Sep (PoolAt K p room ks c t :: F) H ∧ Q (.int (c g)) H
theorem sc_Pool_content_of : FnScope ["self", "grain"] ["self", "grain"] (defScope s_Pool_content_of) := ⟨rfl, rfl, rfl, by decide +kernel, rfl, by decide +kernel, by decide +kernel⟩
set_option maxHeartbeats 4000000 in
theorem g_Pool_content_of (T : Tx K mg) : GMt P w K mg base CX0 (He.ga K "Pool") "content_of" 3 ["self", "grain"] (sp_Pool_content_of K) := by
  obtain ⟨fd, FD⟩ := T.says.def_ 19 (d := d_Pool_content_of) rfl
  obtain ⟨f_Pool_need_grain, fd_Pool_need_grain, F_Pool_need_grain, m_Pool_need_grain, k_Pool_need_grain⟩ := g_Pool_need_grain (P := P) (w := w) (base := base) T
  refine ⟨_, fd, ok0 FD sc_Pool_content_of (fun vs H Q E h => ?_) (fun cdv A outer s H vs Q E hr h => ?_), T_m_Pool_content_of T, FD.bindsN fun _ _ _ _ _ _ us hl => match us, hl with | [_, _], _ => rfl⟩
  · obtain ⟨p, g, room, ks, c, t, F, rfl, h0, hg, S, q⟩ := h
    rfl
  · obtain ⟨p, g, room, ks, c, t, F, rfl, h0, hg, S, q⟩ := h
    refine ⟨_, (pss_cons (ps_expr (pe_meth (pv 0) (T_cl_Pool T) m_Pool_need_grain F_Pool_need_grain (hr.mono (by decide)) k_Pool_need_grain .nil pass0 (pa_cons (pv 1) pa_nil)))
    (pss_one (ps_ret (pe_dget (hu_of hr) (pe_fld (pv 0) rfl) (pv 1) (fun _ _ => rfl))))), ?_⟩
    have hc := T_cl_Pool T
    have n2 := T_n_Pool_told_of T
    walk_at "start"
    have S0 := S
    obtain ⟨d1, d2, S⟩ := PoolAt.open S
    walk_at "w"
    refine c_need h0 hg .here S0 ?_
    walk_at "w"
    exact q
theorem c_content {p : Addr} {g room : Int} {ks : List Int} {c t : Int → Int} {L L' : List Asn} {H : Hp} {Q : VK} {E : XK} (h0 : 0 ≤ g) (hg : g ∈ ks) (m : Pull L (PoolAt K p room ks c t) L') (S : Sep L H) (q : Q (.int (c g)) H) :
    sp_Pool_content_of K (.ref p :: ([.int g] ++ [])) H Q E := ⟨p, g, room, ks, c, t, L', rfl, h0, hg, S.pull m, q⟩
def sp_Pool_holds (K : PySem.W.Frag) : Sp := fun vs H Q _ => ∃ (p : Addr) (g room : Int) (ks : List Int) (c t : Int → Int) (F : List Asn), vs = [.ref p, .int g] ∧ 0 ≤ g ∧ g ∈ ks ∧ Sep (PoolAt K p room ks c t :: F) H ∧ Q (.int (t g)) H
theorem sc_Pool_holds : FnScope ["self", "grain"] ["self", "grain"] (defScope s_Pool_holds) := ⟨rfl, rfl, rfl, by decide +kernel, rfl, by decide +kernel, by decide +kernel⟩
set_option maxHeartbeats 4000000 in
theorem g_Pool_holds (T : Tx K mg) : GMt P w K mg base CX0 (He.ga K "Pool") "holds" 3 ["self", "grain"] (sp_Pool_holds K) := by
  obtain ⟨fd, FD⟩ := T.says.def_ 20 (d := d_Pool_holds) rfl
  obtain ⟨f_Pool_need_grain, fd_Pool_need_grain, F_Pool_need_grain, m_Pool_need_grain, k_Pool_need_grain⟩ := g_Pool_need_grain (P := P) (w := w) (base := base) T
  refine ⟨_, fd, ok0 FD sc_Pool_holds (fun vs H Q E h => ?_) (fun cdv A outer s H vs Q E hr h => ?_), T_m_Pool_holds T, FD.bindsN fun _ _ _ _ _ _ us hl => match us, hl with | [_, _], _ => rfl⟩
  · obtain ⟨p, g, room, ks, c, t, F, rfl, h0, hg, S, q⟩ := h
    rfl
  · obtain ⟨p, g, room, ks, c, t, F, rfl, h0, hg, S, q⟩ := h
    refine ⟨_, (pss_cons (ps_expr (pe_meth (pv 0) (T_cl_Pool T) m_Pool_need_grain F_Pool_need_grain (hr.mono (by decide)) k_Pool_need_grain .nil pass0 (pa_cons (pv 1) pa_nil)))
    (pss_one (ps_ret (pe_dget (hu_of hr) (pe_fld (pv 0) rfl) (pv 1) (fun _ _ => rfl))))), ?_⟩
    have hc := T_cl_Pool T
    have n2 := T_n_Pool_times_of T
    walk_at "start"
    have S0 := S
    obtain ⟨d1, d2, S⟩ := PoolAt.open S
    walk_at "w"
    refine c_need h0 hg .here S0 ?_
    walk_at "w"
    exact q
theorem c_holds {p : Addr} {g room : Int} {ks : List Int} {c t : Int → Int} {L L' : List Asn} {H : Hp} {Q : VK} {E : XK} (h0 : 0 ≤ g) (hg : g ∈ ks) (m : Pull L (PoolAt K p room ks c t) L') (S : Sep L H) (q : Q (.int (t g)) H) :
    sp_Pool_holds K (.ref p :: ([.int g] ++ [])) H Q E := ⟨p, g, room, ks, c, t, L', rfl, h0, hg, S.pull m, q⟩
def sp_Pool_kept (K : PySem.W.Frag) : Sp := fun vs H Q _ => ∃ (p : Addr) (room : Int) (ks : List Int) (c t : Int → Int) (F : List Asn), vs = [.ref p] ∧ Sep (PoolAt K p room ks c t :: F) H ∧
  ∀ (ys : List Int) r H', ys.Perm ks → ys.Pairwise (· ≤ ·) → Sep (own r (.lst (ys.map V.int)) :: PoolAt K p room ks c t :: F) H' → Q (.ref r) H'
theorem sc_Pool_kept : FnScope ["self"] ["self"] (defScope s_Pool_kept) := ⟨rfl, rfl, rfl, by decide +kernel, rfl, by decide +kernel, by decide +kernel⟩
set_option maxHeartbeats 4000000 in
theorem g_Pool_kept (T : Tx K mg) : GMt P w K mg base CX0 (He.ga K "Pool") "kept" 1 ["self"] (sp_Pool_kept K) := by
  obtain ⟨fd, FD⟩ := T.says.def_ 21 (d := d_Pool_kept) rfl
  refine ⟨_, fd, ok0 FD sc_Pool_kept (fun vs H Q E h => ?_) (fun cdv A outer s H vs Q E hr h => ?_), T_m_Pool_kept T, FD.bindsN fun _ _ _ _ _ _ us hl => match us, hl with | [_], _ => rfl⟩
  · obtain ⟨p, room, ks, c, t, F, rfl, S, q⟩ := h
    rfl
  · obtain ⟨p, room, ks, c, t, F, rfl, S, q⟩ := h
    refine ⟨_, (pss_one (ps_ret (pe_callB (cr_sortedDI rfl) (by rfl) (T_sorted T) (by decide +kernel) (pa_cons (pe_fld (pv 0) rfl) pa_nil)))), ?_⟩
    have hc := T_cl_Pool T
    have n2 := T_n_Pool_told_of T
    walk_at "start"
    obtain ⟨d1, d2, S⟩ := PoolAt.open S
    walk_at "w"
    refine w_sortedDI (by walk_at "pull") S (tab_keys _ _) fun ys r H hp hs S => ?_
    exact q ys r _ hp hs ((PoolAt.shut (by walk_at "pull") (by walk_at "pull") (by walk_at "pull") S).pull (.there .here))
theorem c_kept {p : Addr} {room : Int} {ks : List Int} {c t : Int → Int} {L L' : List Asn} {H : Hp} {Q : VK} {E : XK} (m : Pull L (PoolAt K p room ks c t) L') (S : Sep L H)
    (q : ∀ (ys : List Int) r H', ys.Perm ks → ys.Pairwise (· ≤ ·) → Sep (own r (.lst (ys.map V.int)) :: PoolAt K p room ks c t :: L') H' → Q (.ref r) H') : sp_Pool_kept K (.ref p :: ([] ++ [])) H Q E := ⟨p, room, ks, c, t, L', rfl, S.pull m, q⟩
def sp_Pool_left (K : PySem.W.Frag) : Sp := fun vs H Q _ => ∃ (p : Addr) (room : Int) (ks : List Int) (c t : Int → Int) (F : List Asn), vs = [.ref p] ∧ Sep (PoolAt K p room ks c t :: F) H ∧ Q (.int (room - ks.length)) H
theorem sc_Pool_left : FnScope ["self"] ["self"] (defScope s_Pool_left) := ⟨rfl, rfl, rfl, by decide +kernel, rfl, by decide +kernel, by decide +kernel⟩
set_option maxHeartbeats 4000000 in
theorem g_Pool_left (T : Tx K mg) : GMt P w K mg base CX0 (He.ga K "Pool") "left" 1 ["self"] (sp_Pool_left K) := by
  obtain ⟨fd, FD⟩ := T.says.def_ 22 (d := d_Pool_left) rfl
  refine ⟨_, fd, ok0 FD sc_Pool_left (fun vs H Q E h => ?_) (fun cdv A outer s H vs Q E hr h => ?_), T_m_Pool_left T, FD.bindsN fun _ _ _ _ _ _ us hl => match us, hl with | [_], _ => rfl⟩
  · obtain ⟨p, room, ks, c, t, F, rfl, S, q⟩ := h
    rfl
  · obtain ⟨p, room, ks, c, t, F, rfl, S, q⟩ := h
    refine ⟨_, (pss_one (ps_ret (pe_op op_sub (pe_fld (pv 0) rfl) (pe_callB n_lenD (by rfl) (T_len T) (by decide +kernel) (pa_cons (pe_fld (pv 0) rfl) pa_nil))))), ?_⟩
    have hc := T_cl_Pool T
    have n1 := T_n_Pool_room_for T
    have n2 := T_n_Pool_told_of T
    walk_at "start"
    obtain ⟨d1, d2, S⟩ := PoolAt.open S
    walk_at "w"
    rw [tab_len]
    exact q
theorem c_left {p : Addr} {room : Int} {ks : List Int} {c t : Int → Int} {L L' : List Asn} {H : Hp} {Q : VK} {E : XK} (m : Pull L (PoolAt K p room ks c t) L') (S : Sep L H) (q : Q (.int (room - ks.length)) H) :
    sp_Pool_left K (.ref p :: ([] ++ [])) H Q E := ⟨p, room, ks, c, t, L', rfl, S.pull m, q⟩

def sp_Pool_hold (K : PySem.W.Frag) : Sp := fun vs H Q _ => ∃ (p : Addr) (g room : Int) (ks : List Int) (c t : Int → Int) (F : List Asn), vs = [.ref p, .int g] ∧ 0 ≤ g ∧ g ∈ ks ∧ ks.length ≤ 120 ∧ Sep (PoolAt K p room ks c t :: F) H ∧
  ∀ H', Sep (PoolAt K p room ks c (set1 t g (t g + 1)) :: F) H' → Q .non H'
theorem sc_Pool_hold : FnScope ["self", "grain"] ["self", "grain"] (defScope s_Pool_hold) := ⟨rfl, rfl, rfl, by decide +kernel, rfl, by decide +kernel, by decide +kernel⟩
set_option maxHeartbeats 4000000 in
theorem g_Pool_hold (T : Tx K mg) : GMt P w K mg base CX0 (He.ga K "Pool") "hold" 3 ["self", "grain"] (sp_Pool_hold K) := by
  obtain ⟨fd, FD⟩ := T.says.def_ 17 (d := d_Pool_hold) rfl
  obtain ⟨f_Pool_need_grain, fd_Pool_need_grain, F_Pool_need_grain, m_Pool_need_grain, k_Pool_need_grain⟩ := g_Pool_need_grain (P := P) (w := w) (base := base) T
  refine ⟨_, fd, ok0 FD sc_Pool_hold (fun vs H Q E h => ?_) (fun cdv A outer s H vs Q E hr h => ?_), T_m_Pool_hold T, FD.bindsN fun _ _ _ _ _ _ us hl => match us, hl with | [_, _], _ => rfl⟩
  · obtain ⟨p, g, room, ks, c, t, F, rfl, h0, hg, hl, S, q⟩ := h
    rfl
  · obtain ⟨p, g, room, ks, c, t, F, rfl, h0, hg, hl, S, q⟩ := h
    refine ⟨_, (pss_cons (ps_expr (pe_meth (pv 0) (T_cl_Pool T) m_Pool_need_grain F_Pool_need_grain (hr.mono (by decide)) k_Pool_need_grain .nil pass0 (pa_cons (pv 1) pa_nil)))
    (pss_one (ps_dput (hu_of hr) (pe_fld (pv 0) rfl) (pv 1) (pe_op op_add (pe_dget (hu_of hr) (pe_fld (pv 0) rfl) (pv 1) (fun _ _ => rfl)) pe_int) rfl))), ?_⟩
    have hc := T_cl_Pool T
    have n3 := T_n_Pool_times_of T
    walk_at "start"
    have S0 := S
    obtain ⟨d1, d2, S⟩ := PoolAt.open S
    walk_at "w"
    refine c_need h0 hg .here S0 ?_
    have hsz2 : (tab ks fun k => V.int (t k)).length < sizeLine := by rw [tab_len, sizeLine_eq]; omega
    walk_at "w"
    rw [put_old hg, ← set1_int] at S
    exact q _ (PoolAt.shut (by walk_at "pull") (by walk_at "pull") (by walk_at "pull") S)
theorem c_hold {p : Addr} {g room : Int} {ks : List Int} {c t : Int → Int} {L L' : List Asn} {H : Hp} {Q : VK} {E : XK} (h0 : 0 ≤ g) (hg : g ∈ ks) (hl : ks.length ≤ 120) (m : Pull L (PoolAt K p room ks c t) L') (S : Sep L H)
    (q : ∀ H', Sep (PoolAt K p room ks c (set1 t g (t g + 1)) :: L') H' → Q .non H') : sp_Pool_hold K (.ref p :: ([.int g] ++ [])) H Q E := ⟨p, g, room, ks, c, t, L', rfl, h0, hg, hl, S.pull m, q⟩


/-! ### the law's own pool -/
theorem pick4 {a b c d : Int} {r : Int} (h0 : 0 ≤ r) (h1 : r < 4) {P : Int → Prop} (pa : P a) (pb : P b) (pc : P c) (pd : P d) : ∃ z, atI [V.int a, .int b, .int c, .int d] r = some (.int z) ∧ P z := by
  have h : r = 0 ∨ r = 1 ∨ r = 2 ∨ r = 3 := by omega
  rcases h with rfl | rfl | rfl | rfl
  · exact ⟨a, rfl, pa⟩
  · exact ⟨b, rfl, pb⟩
  · exact ⟨c, rfl, pc⟩
  · exact ⟨d, rfl, pd⟩
theorem pick3 {a b c : Int} {r : Int} (h0 : 0 ≤ r) (h1 : r < 3) {P : Int → Prop} (pa : P a) (pb : P b) (pc : P c) : ∃ z, atI [V.int a, .int b, .int c] r = some (.int z) ∧ P z := by
  have h : r = 0 ∨ r = 1 ∨ r = 2 := by omega
  rcases h with rfl | rfl | rfl
  · exact ⟨a, rfl, pa⟩
  · exact ⟨b, rfl, pb⟩
  · exact ⟨c, rfl, pc⟩
theorem pick2 {a b : Int} {r : Int} (h0 : 0 ≤ r) (h1 : r < 2) {P : Int → Prop} (pa : P a) (pb : P b) : ∃ z, atI [V.int a, .int b] r = some (.int z) ∧ P z := by
  have h : r = 0 ∨ r = 1 := by omega
  rcases h with rfl | rfl
  · exact ⟨a, rfl, pa⟩
  · exact ⟨b, rfl, pb⟩
def sp__law_content (K : PySem.W.Frag) : Sp := fun vs H Q _ => ∃ (b : Addr) (F : List Asn), vs = [.ref b] ∧ Sep (Bag b :: F) H ∧ ∀ z H', 0 ≤ z → z ≤ 1000000000 → Sep (Bag b :: F) H' → Q (.int z) H'
theorem sc__law_content : FnScope ["_law_bag_here"] ["_law_bag_here"] (defScope s__law_content) := ⟨rfl, rfl, rfl, by decide +kernel, rfl, by decide +kernel, by decide +kernel⟩
set_option maxHeartbeats 4000000 in
theorem g__law_content (T : Tx K mg) : GFn P w K mg base CX0 "_law_content" 2 ["_law_bag_here"] (sp__law_content K) := by
  obtain ⟨fd, FD⟩ := T.says.def_ 6 (d := d__law_content) rfl
  obtain ⟨f__law_take, fd__law_take, F__law_take, m__law_take, k__law_take, b__law_take⟩ := g__law_take (P := P) (w := w) (base := base) T
  refine ⟨_, fd, ok0 FD sc__law_content (fun vs H Q E h => ?_) (fun cdv A outer s H vs Q E hr h => ?_), T_g__law_content T, FD.kp, FD.bindsN fun _ _ _ _ _ _ us hl => match us, hl with | [_], _ => rfl⟩
  · obtain ⟨b, F, rfl, S, q⟩ := h
    rfl
  · obtain ⟨b, F, rfl, S, q⟩ := h
    refine ⟨_, (pss_one (ps_ret (pe_ix ix_list (pe_lst (pa_cons (pe_call F__law_take (hr.mono (by decide)) (by rfl) m__law_take k__law_take b__law_take .nil pass0 (pa_cons (pv 0) (pa_cons pe_int pa_nil))) (pa_cons (pe_call F__law_take (hr.mono (by decide)) (by rfl) m__law_take k__law_take b__law_take .nil pass0 (pa_cons (pv 0) (pa_cons (pe_op op_add (pe_pow (n := 1000000000) (by decide +kernel)) pe_int) pa_nil))) (pa_cons (pe_pow (n := 1000000000) (by decide +kernel)) (pa_cons pe_int pa_nil))))) (pe_call F__law_take (hr.mono (by decide)) (by rfl) m__law_take k__law_take b__law_take .nil pass0 (pa_cons (pv 0) (pa_cons pe_int pa_nil))) (fun _ _ => rfl)))), ?_⟩
    walk_at "start"
    walk_at "w"
    refine c_take (by walk_at "pull") S (by walk_at "num") (by walk_at "num") fun r1 H r1_0 r1_1 S => ?_
    walk_at "w"
    walk_at "w"
    refine c_take (by walk_at "pull") S (by walk_at "num") (by walk_at "num") fun r2 H r2_0 r2_1 S => ?_
    walk_at "w"
    walk_at "w"
    refine c_take (by walk_at "pull") S (by walk_at "num") (by walk_at "num") fun r3 H r3_0 r3_1 S => ?_
    walk_at "w"
    obtain ⟨z, ez, h1, h2⟩ := pick4 r3_0 r3_1 (P := fun z => 0 ≤ z ∧ z ≤ 1000000000) (a := r1) (b := r2) (c := 1000000000) (d := 0) (by omega) (by omega) (by omega) (by omega)
    refine w_ixL (by walk_at "sq") ez ?_
    exact q z _ h1 h2 S.drop2
theorem c_law_content {b : Addr} {L L' : List Asn} {H : Hp} {Q : VK} {E : XK} (m : Pull L (Bag b) L') (S : Sep L H) (q : ∀ z H', 0 ≤ z → z ≤ 1000000000 → Sep (Bag b :: L') H' → Q (.int z) H') : sp__law_content K ([.ref b] ++ []) H Q E := ⟨b, L', rfl, S.pull m, q⟩
/-- the law's state: the room, a dict of lists [content, times] -/
def StAt (st : Addr) (room : Int) (ks : List Int) (c t : Int → Int) : Asn := fun g => ∃ (d : Addr) (a : Int → Addr), Stars [own st (.lst [.int room, .ref d]), own d (.dK (tab ks fun k => .ref (a k))), Stars (ks.map fun k => own (a k) (.lst [.int (c k), .int (t k)]))] g
theorem StAt.open {st : Addr} {room : Int} {ks : List Int} {c t : Int → Int} {L : List Asn} {H : Hp} (S : Sep (StAt st room ks c t :: L) H) :
    ∃ (d : Addr) (a : Int → Addr), Sep (own st (.lst [.int room, .ref d]) :: own d (.dK (tab ks fun k => .ref (a k))) :: Stars (ks.map fun k => own (a k) (.lst [.int (c k), .int (t k)])) :: L) H := by
  obtain ⟨d, S⟩ := S.ex
  obtain ⟨a, S⟩ := S.ex
  exact ⟨d, a, S.split⟩
theorem StAt.shut {st d : Addr} {a : Int → Addr} {room : Int} {ks : List Int} {c t : Int → Int} {L L1 L2 L3 : List Asn} {H : Hp} (m1 : Pull L1 (own st (.lst [.int room, .ref d])) L2) (m2 : Pull L2 (own d (.dK (tab ks fun k => .ref (a k)))) L3)
    (m3 : Pull L3 (Stars (ks.map fun k => own (a k) (.lst [.int (c k), .int (t k)]))) L) (S : Sep L1 H) : Sep (StAt st room ks c t :: L) H := by
  have S2 : Sep ([own st (.lst [.int room, .ref d]), own d (.dK (tab ks fun k => .ref (a k))), Stars (ks.map fun k => own (a k) (.lst [.int (c k), .int (t k)]))] ++ L) H := ((S.pull m1).push2 m2).push3 m3
  exact S2.join.conv fun g x => ⟨d, a, x⟩
theorem StAt.congr {st : Addr} {room : Int} {ks : List Int} {c c' t t' : Int → Int} (h : ∀ k ∈ ks, c k = c' k) (h2 : ∀ k ∈ ks, t k = t' k) : StAt st room ks c t = StAt st room ks c' t' := by
  have e : ∀ a : Int → Addr, (ks.map fun k => own (a k) (.lst [V.int (c k), .int (t k)])) = ks.map fun k => own (a k) (.lst [V.int (c' k), .int (t' k)]) := fun a => List.map_congr_left fun k hk => by rw [h k hk, h2 k hk]
  unfold StAt
  simp only [e]
/-- a further grain -/
theorem StAt.more {st d q : Addr} {a : Int → Addr} {room : Int} {ks : List Int} {c t : Int → Int} {g z y : Int} {L L1 L2 L3 L4 : List Asn} {H : Hp} (hg : g ∉ ks) (m1 : Pull L1 (own st (.lst [.int room, .ref d])) L2)
    (m2 : Pull L2 (own d (.dK (putK (tab ks fun k => .ref (a k)) (.inl g) (.ref q)))) L3) (m3 : Pull L3 (own q (.lst [.int z, .int y])) L4) (m4 : Pull L4 (Stars (ks.map fun k => own (a k) (.lst [.int (c k), .int (t k)]))) L) (S : Sep L1 H) :
    Sep (StAt st room (ks ++ [g]) (set1 c g z) (set1 t g y) :: L) H := by
  have S1 : Sep (own st (.lst [.int room, .ref d]) :: own d (.dK (putK (tab ks fun k => .ref (a k)) (.inl g) (.ref q))) :: own q (.lst [.int z, .int y]) :: Stars (ks.map fun k => own (a k) (.lst [.int (c k), .int (t k)])) :: L) H :=
    S.perm (.cons m1 (.cons m2 (.cons m3 (.cons m4 .refl))))
  rw [put_new hg, ← set1_ref] at S1
  have S2 := S1.perm (M := own q (.lst [.int z, .int y]) :: Stars (ks.map fun k => own (a k) (.lst [.int (c k), .int (t k)])) :: own st (.lst [.int room, .ref d]) :: own d (.dK (tab (ks ++ [g]) fun k => .ref (set1 a g q k))) :: L) (by walk_at "perm")
  have S3 := Sep.one_new (f := fun k => own (a k) (.lst [V.int (c k), .int (t k)])) (f' := fun k => own (set1 a g q k) (.lst [V.int (set1 c g z k), .int (set1 t g y k)])) (ks := ks) (g := g) (fun k hk => by
    have e : k ≠ g := fun e => hg (by rw [← e]; exact hk)
    show own (a k) (.lst [V.int (c k), .int (t k)]) = own (set1 a g q k) (.lst [V.int (set1 c g z k), .int (set1 t g y k)])
    rw [set1_ne e, set1_ne e, set1_ne e]) (by
    show Sep (own (set1 a g q g) (.lst [V.int (set1 c g z g), .int (set1 t g y g)]) :: _) H
    rw [set1_same, set1_same, set1_same]
    exact S2)
  exact StAt.shut (.there .here) (.there .here) .here S3
/-- a grain less -/
theorem StAt.fewer {st d : Addr} {a : Int → Addr} {room : Int} {ks : List Int} {c t : Int → Int} {g : Int} {L L1 L2 L3 : List Asn} {H : Hp} (hnd : ks.Nodup) (hg : g ∈ ks) (m1 : Pull L1 (own st (.lst [.int room, .ref d])) L2)
    (m2 : Pull L2 (own d (.dK (dropK (tab ks fun k => .ref (a k)) (.inl g)))) L3) (m4 : Pull L3 (Stars (ks.map fun k => own (a k) (.lst [.int (c k), .int (t k)]))) L) (S : Sep L1 H) :
    Sep (StAt st room (ks.filter fun k => decide (k ≠ g)) c t :: L) H := by
  have S1 : Sep (Stars (ks.map fun k => own (a k) (.lst [.int (c k), .int (t k)])) :: own st (.lst [.int room, .ref d]) :: own d (.dK (dropK (tab ks fun k => .ref (a k)) (.inl g))) :: L) H :=
    (S.perm (M := own st (.lst [.int room, .ref d]) :: own d (.dK (dropK (tab ks fun k => .ref (a k)) (.inl g))) :: Stars (ks.map fun k => own (a k) (.lst [.int (c k), .int (t k)])) :: L) (.cons m1 (.cons m2 (.cons m4 .refl)))).perm (by walk_at "perm")
  rw [drop_tab] at S1
  have S2 := (Sep.one_of (f := fun k => own (a k) (.lst [V.int (c k), .int (t k)])) hnd hg S1).tail
  exact StAt.shut (.there .here) (.there .here) .here S2
def sp__law_free (K : PySem.W.Frag) : Sp := fun vs H Q _ => ∃ (st : Addr) (room : Int) (ks : List Int) (c t : Int → Int) (F : List Asn), vs = [.ref st] ∧ Sep (StAt st room ks c t :: F) H ∧ ∀ g, Least ks g → Q (.int g) H
theorem sc__law_free : FnScope ["_law_state", "_law_grain"] ["_law_state"] (defScope s__law_free) := ⟨rfl, rfl, rfl, by decide +kernel, rfl, by decide +kernel, by decide +kernel⟩
set_option maxHeartbeats 4000000 in
theorem g__law_free (T : Tx K mg) : GFn P w K mg base CX0 "_law_free" 1 ["_law_state"] (sp__law_free K) := by
  obtain ⟨fd, FD⟩ := T.says.def_ 7 (d := d__law_free) rfl
  refine ⟨_, fd, ok0 FD sc__law_free (fun vs H Q E h => ?_) (fun cdv A outer s H vs Q E hr h => ?_), T_g__law_free T, FD.kp, FD.bindsN fun _ _ _ _ _ _ us hl => match us, hl with | [_], _ => rfl⟩
  · obtain ⟨st, room, ks, c, t, F, rfl, S, q⟩ := h
    rfl
  · obtain ⟨st, room, ks, c, t, F, rfl, S, q⟩ := h
    refine ⟨_, (pss_cons (ps_set (i := 1) sc__law_free.nd rfl (Or.inl rfl) pe_int)
    (pss_cons (ps_while PassesOwn.never (pt_cmp (pc_din (hu_of hr) (pv 1) (pe_ix ix_list (pv 0) pe_int (fun _ _ => rfl))))
      (pss_one (ps_set (i := 1) sc__law_free.nd rfl (Or.inl rfl) (pe_op op_add (pv 1) pe_int))))
    (pss_one (ps_ret (pv 1))))), ?_⟩
    walk_at "start"
    obtain ⟨d, a, S⟩ := StAt.open S
    walk_at "w"
    refine w_while (fun m σ H' => ∃ g : Nat, σ = [some (.ref st), some (.int g)] ∧ (∀ j : Nat, j < g → (j : Int) ∈ ks) ∧ m = ks.length - g ∧ H' = H) ks.length
      ⟨0, rfl, fun _ h => absurd h (Nat.not_lt_zero _), rfl, rfl⟩ ?_
    rintro m σ H' ⟨g, rfl, hb, rfl, rfl⟩
    walk_at "w"
    rw [valV_some]
    refine w_dec (fun hm => ?_) (fun hm => ?_)
    · have hlen : g + 1 ≤ ks.length := below_len fun j hj => by
        by_cases e : j = g
        · rw [e]; exact hm
        · exact hb j (by omega)
      refine ⟨_, fun _ _ z => z, ?_⟩
      walk_at "w"
      refine ⟨ks.length - (g + 1), by omega, g + 1, rfl, fun j hj => ?_, rfl, rfl⟩
      by_cases e : j = g
      · rw [e]; exact hm
      · exact hb j (by omega)
    · walk_at "w"
      refine q _ ⟨by omega, hm, fun j h0 hj => ?_⟩
      have := hb j.toNat (by omega)
      rw [Int.toNat_of_nonneg h0] at this
      exact this
theorem c_law_free {st : Addr} {room : Int} {ks : List Int} {c t : Int → Int} {L L' : List Asn} {H : Hp} {Q : VK} {E : XK} (m : Pull L (StAt st room ks c t) L') (S : Sep L H) (q : ∀ g, Least ks g → Q (.int g) H) : sp__law_free K ([.ref st] ++ []) H Q E :=
  ⟨st, room, ks, c, t, L', rfl, S.pull m, q⟩
def sp__law_right (K : PySem.W.Frag) : Sp := fun vs H Q _ => ∃ (p st : Addr) (room : Int) (ks : List Int) (c t : Int → Int) (F : List Asn), vs = [.ref p, .ref st] ∧ ks.Nodup ∧ (∀ k ∈ ks, 0 ≤ k) ∧ ks.length ≤ 120 ∧ Sep (PoolAt K p room ks c t :: StAt st room ks c t :: F) H ∧
  ∀ H', Sep (PoolAt K p room ks c t :: StAt st room ks c t :: F) H' → Q (.bl true) H'
theorem sc__law_right : FnScope ["_law_pool", "_law_state", "_law_kept", "_law_left", "_law_grain", "_law_told"] ["_law_pool", "_law_state"] (defScope s__law_right) := ⟨rfl, rfl, rfl, by decide +kernel, rfl, by decide +kernel, by decide +kernel⟩
set_option maxHeartbeats 4000000 in
theorem g__law_right (T : Tx K mg) : GFn P w K mg base CX0 "_law_right" 4 ["_law_pool", "_law_state"] (sp__law_right K) := by
  obtain ⟨fd, FD⟩ := T.says.def_ 8 (d := d__law_right) rfl
  obtain ⟨f_Pool_kept, fd_Pool_kept, F_Pool_kept, m_Pool_kept, k_Pool_kept⟩ := g_Pool_kept (P := P) (w := w) (base := base) T
  obtain ⟨f_Pool_left, fd_Pool_left, F_Pool_left, m_Pool_left, k_Pool_left⟩ := g_Pool_left (P := P) (w := w) (base := base) T
  obtain ⟨f__law_whole, fd__law_whole, F__law_whole, m__law_whole, k__law_whole, b__law_whole⟩ := g__law_whole (P := P) (w := w) (base := base) T
  obtain ⟨f_Pool_holds, fd_Pool_holds, F_Pool_holds, m_Pool_holds, k_Pool_holds⟩ := g_Pool_holds (P := P) (w := w) (base := base) T
  obtain ⟨f_Pool_content_of, fd_Pool_content_of, F_Pool_content_of, m_Pool_content_of, k_Pool_content_of⟩ := g_Pool_content_of (P := P) (w := w) (base := base) T
  refine ⟨_, fd, ok0 FD sc__law_right (fun vs H Q E h => ?_) (fun cdv A outer s H vs Q E hr h => ?_), T_g__law_right T, FD.kp, FD.bindsN fun _ _ _ _ _ _ us hl => match us, hl with | [_, _], _ => rfl⟩
  · obtain ⟨p, st, room, ks, c, t, F, rfl, hnd, hpos, hlen, S, q⟩ := h
    rfl
  · obtain ⟨p, st, room, ks, c, t, F, rfl, hnd, hpos, hlen, S, q⟩ := h
    refine ⟨_, (pss_cons (ps_set (i := 2) sc__law_right.nd rfl (Or.inl rfl) (pe_meth0 (pv 0) (T_cl_Pool T) m_Pool_kept F_Pool_kept (hr.mono (by decide)) k_Pool_kept .nil pass0))
    (pss_cons (ps_set (i := 3) sc__law_right.nd rfl (Or.inl rfl) (pe_meth0 (pv 0) (T_cl_Pool T) m_Pool_left F_Pool_left (hr.mono (by decide)) k_Pool_left .nil pass0))
    (pss_cons (ps_if (PW.pt (pw_or (pt_not (pt_val (pe_callB call_isi (by rfl) (T_isinstance T) (by decide +kernel) (pa_cons (pv 2) (pa_cons (pe_bltn (v := .ty "list") (by rfl) (T_list T) (by decide +kernel) rfl) pa_nil))))) (pw_or (pt_cmpR (op_neD hr.units) (pv 2) (pe_callB (cr_sortedDI rfl) (by rfl) (T_sorted T) (by decide +kernel) (pa_cons (pe_ix ix_list (pv 1) pe_int (fun _ _ => rfl)) pa_nil)) (nomark _)) (pw_or1 (pt_not (pt_val (pe_callB (cr_all rfl) (by rfl) (T_all T) (by decide +kernel) (pa_cons (pe_lc (own := [("_law_grain", 4)]) (g := gName 4) (by rfl) sc__law_right.nd (pi_list (pv 2)) (blkOk_by (own := [("_law_grain", 4)]) (N := ["_law_pool", "_law_state", "_law_kept", "_law_left", "_law_grain", "_law_told"]) (sc := defScope s__law_right) (by decide +kernel)) (fun _ _ _ _ _ => pg_name (i := 4) sc__law_right.nd rfl (Or.inl rfl)) (fun _ _ _ _ _ => pts_nil) (fun _ _ _ _ _ => (pe_call F__law_whole (hr.mono (by decide)) (by rfl) m__law_whole k__law_whole b__law_whole .nil pass0 (pa_cons (pv 4) pa_nil)))) pa_nil))))))))
      (pss_one (ps_ret pe_bl))
      pss_nil)
    (pss_cons (ps_if (PW.pt (pw_or (pt_not (pt_val (pe_call F__law_whole (hr.mono (by decide)) (by rfl) m__law_whole k__law_whole b__law_whole .nil pass0 (pa_cons (pv 3) pa_nil)))) (pw_or1 (pt_cmpR op_ne (pv 3) (pe_op op_sub (pe_ix ix_list (pv 1) pe_int (fun _ _ => rfl)) (pe_callB n_len_seq (by rfl) (T_len T) (by decide +kernel) (pa_cons (pv 2) pa_nil))) (nomark _)))))
      (pss_one (ps_ret pe_bl))
      pss_nil)
    (pss_cons (ps_for PassesOwn.never rfl (pi_list (pv 2)) (pg_name (i := 4) sc__law_right.nd rfl (Or.inl rfl))
      (pss_cons (ps_set (i := 5) sc__law_right.nd rfl (Or.inl rfl) (pe_lst (pa_cons (pe_meth (pv 0) (T_cl_Pool T) m_Pool_content_of F_Pool_content_of (hr.mono (by decide)) k_Pool_content_of .nil pass0 (pa_cons (pv 4) pa_nil)) (pa_cons (pe_meth (pv 0) (T_cl_Pool T) m_Pool_holds F_Pool_holds (hr.mono (by decide)) k_Pool_holds .nil pass0 (pa_cons (pv 4) pa_nil)) pa_nil))))
    (pss_one (ps_if (PW.pt (pw_or (pt_cmpR (op_neD hr.units) (pv 5) (pe_dget (hu_of hr) (pe_ix ix_list (pv 1) pe_int (fun _ _ => rfl)) (pv 4) (fun _ _ => rfl)) (nomark _)) (pw_or (pt_not (pt_val (pe_call F__law_whole (hr.mono (by decide)) (by rfl) m__law_whole k__law_whole b__law_whole .nil pass0 (pa_cons (pe_ix ix_list (pv 5) pe_int (fun _ _ => rfl)) pa_nil)))) (pw_or1 (pt_not (pt_val (pe_call F__law_whole (hr.mono (by decide)) (by rfl) m__law_whole k__law_whole b__law_whole .nil pass0 (pa_cons (pe_ix ix_list (pv 5) pe_int (fun _ _ => rfl)) pa_nil))))))))
      (pss_one (ps_ret pe_bl))
      pss_nil))))
    (pss_one (ps_ret pe_bl))))))), ?_⟩
    walk_at "start"
    walk_at "w"
    refine c_kept .here S fun kp r H hp1 hs1 S => ?_
    walk_at "w"
    refine c_left (by walk_at "pull") S ?_
    have hkl : kp.length = ks.length := hp1.length_eq
    obtain ⟨d, a, S⟩ := StAt.open (S.pull (.there (.there .here)))
    walk_at "w"
    refine w_sortedDI (by walk_at "pull") S (tab_keys _ _) fun ys r2 H hp2 hs2 S => ?_
    walk_at "w"
    refine w_neInts (by walk_at "sq") (by walk_at "sq") ?_
    rw [decide_eq_true (sorted_one (hp1.trans hp2.symm) hs1 hs2)]
    walk_at "w"
    refine w_lcLk S (fun H S => by walk_at "sq") (fun i acc => acc = (List.replicate i true).map V.bl) rfl ?_ ?_
    · rintro D i x acc H' hx rfl S
      obtain ⟨z, hz, rfl⟩ := map_int_get hx
      have hi := (List.getElem?_eq_some_iff.mp hz).1
      walk_at "w"
      refine ⟨rfl, ?_⟩
      walk_at "w"
      exact LcT.mkK (by walk_at "perm") S (by rw [List.length_map, List.length_replicate, sizeLine_eq]; omega) (repV_snoc i)
    rintro D acc H' rfl S
    walk_at "w"
    refine w_allT (by walk_at "sq") ?_
    walk_at "w"
    rw [List.length_map, hkl, decide_eq_true rfl]
    walk_at "w"
    refine w_forLk S (fun H S => by walk_at "sq") (fun i σ => ∃ v4 v5, σ = [some (.ref p), some (.ref st), some (.ref r), some (.int (room - ks.length)), v4, v5]) ⟨none, none, rfl⟩ ?_ ?_
    · rintro i x σ H hx ⟨v4, v5, rfl⟩ S
      obtain ⟨g, hz, rfl⟩ := map_int_get hx
      have hg : g ∈ ks := hp1.mem_iff.mp (List.mem_of_getElem? hz)
      have h0 := hpos g hg
      walk_at "w"
      refine c_content h0 hg (by walk_at "pull") S ?_
      walk_at "w"
      refine c_holds h0 hg (by walk_at "pull") S ?_
      walk_at "w"
      have hS := S
      have S1 := Sep.one_of (f := fun k => own (a k) (.lst [V.int (c k), .int (t k)])) hnd hg (S.pull (by walk_at "pull"))
      refine w_neInts (xs := [c g, t g]) (ys := [c g, t g]) (Sep.sql (xs := [V.int (c g), V.int (t g)]) (by walk_at "pull") S) (Sep.sql (xs := [V.int (c g), V.int (t g)]) .here S1) ?_
      rw [decide_eq_true rfl]
      walk_at "w"
      exact ⟨⟨_, _, rfl⟩, S.perm (by walk_at "perm")⟩
    rintro σ H ⟨v4, v5, rfl⟩ S
    walk_at "w"
    refine q _ (Sep.pull (.there .here) (StAt.shut (by walk_at "pull") (by walk_at "pull") (by walk_at "pull") (S.perm (M := own st (.lst [.int room, .ref d]) :: own d (.dK (tab ks fun k => .ref (a k))) :: Stars (ks.map fun k => own (a k) (.lst [.int (c k), .int (t k)])) :: PoolAt K p room ks c t :: F) (by walk_at "perm"))))
theorem c_law_right {p st : Addr} {room : Int} {ks : List Int} {c t : Int → Int} {L L' L'' : List Asn} {H : Hp} {Q : VK} {E : XK} (hnd : ks.Nodup) (hpos : ∀ k ∈ ks, 0 ≤ k) (hl : ks.length ≤ 120) (m1 : Pull L (PoolAt K p room ks c t) L') (m2 : Pull L' (StAt st room ks c t) L'') (S : Sep L H)
    (q : ∀ H', Sep (PoolAt K p room ks c t :: StAt st room ks c t :: L'') H' → Q (.bl true) H') : sp__law_right K ([.ref p, .ref st] ++ []) H Q E := ⟨p, st, room, ks, c, t, L'', rfl, hnd, hpos, hl, (S.pull m1).push2 m2, q⟩

/-- one grain of the law's state, by itself -/
theorem StAt.open1 {st : Addr} {room : Int} {ks : List Int} {c t : Int → Int} {g : Int} {L : List Asn} {H : Hp} (hnd : ks.Nodup) (hg : g ∈ ks) (S : Sep (StAt st room ks c t :: L) H) :
    ∃ (d : Addr) (a : Int → Addr), Sep (own st (.lst [.int room, .ref d]) :: own d (.dK (tab ks fun k => .ref (a k))) :: own (a g) (.lst [.int (c g), .int (t g)]) :: Stars ((ks.filter fun k => decide (k ≠ g)).map fun k => own (a k) (.lst [.int (c k), .int (t k)])) :: L) H := by
  obtain ⟨d, a, S⟩ := StAt.open S
  have S1 := Sep.one_of (f := fun k => own (a k) (.lst [V.int (c k), .int (t k)])) hnd hg (S.perm (M := Stars (ks.map fun k => own (a k) (.lst [.int (c k), .int (t k)])) :: own st (.lst [.int room, .ref d]) :: own d (.dK (tab ks fun k => .ref (a k))) :: L) (by walk_at "perm"))
  exact ⟨d, a, S1.perm (.cons (.there (.there .here)) (.cons (.there (.there .here)) .refl))⟩
theorem StAt.shut1 {st d : Addr} {a : Int → Addr} {room : Int} {ks : List Int} {c t : Int → Int} {g y : Int} {L L1 L2 L3 L4 : List Asn} {H : Hp} (hnd : ks.Nodup) (hg : g ∈ ks) (m1 : Pull L1 (own st (.lst [.int room, .ref d])) L2)
    (m2 : Pull L2 (own d (.dK (tab ks fun k => .ref (a k)))) L3) (m3 : Pull L3 (own (a g) (.lst [.int (c g), .int y])) L4) (m4 : Pull L4 (Stars ((ks.filter fun k => decide (k ≠ g)).map fun k => own (a k) (.lst [.int (c k), .int (t k)]))) L) (S : Sep L1 H) :
    Sep (StAt st room ks c (set1 t g y) :: L) H := by
  have S1 : Sep (own st (.lst [.int room, .ref d]) :: own d (.dK (tab ks fun k => .ref (a k))) :: own (a g) (.lst [.int (c g), .int y]) :: Stars ((ks.filter fun k => decide (k ≠ g)).map fun k => own (a k) (.lst [.int (c k), .int (t k)])) :: L) H :=
    S.perm (.cons m1 (.cons m2 (.cons m3 (.cons m4 .refl))))
  have S2 : Sep (own (a g) (.lst [.int (c g), .int y]) :: Stars ((ks.filter fun k => decide (k ≠ g)).map fun k => own (a k) (.lst [.int (c k), .int (t k)])) :: own st (.lst [.int room, .ref d]) :: own d (.dK (tab ks fun k => .ref (a k))) :: L) H :=
    S1.perm (.cons (.there (.there .here)) (.cons (.there (.there .here)) .refl))
  have S3 := Sep.one_back (f := fun k => own (a k) (.lst [V.int (c k), .int (t k)])) (f' := fun k => own (a k) (.lst [V.int (c k), .int (set1 t g y k)])) hnd hg (fun k hk => by
    show own (a k) (.lst [V.int (c k), .int (t k)]) = own (a k) (.lst [V.int (c k), .int (set1 t g y k)])
    rw [set1_ne hk]) (by
    show Sep (own (a g) (.lst [V.int (c g), .int (set1 t g y g)]) :: _) H
    rw [set1_same]
    exact S2)
  exact StAt.shut (.there .here) (.there .here) .here S3


structure Good (room : Int) (ks : List Int) (c t : Int → Int) : Prop where
  nd : ks.Nodup
  pos : ∀ k ∈ ks, 0 ≤ k
  len : (ks.length : Int) ≤ room
  r1 : 1 ≤ room
  r120 : room ≤ 120
  one : ∀ k ∈ ks, 1 ≤ t k
theorem Good.l120 {room : Int} {ks : List Int} {c t : Int → Int} (G : Good room ks c t) : ks.length ≤ 120 := by
  have := G.len
  have := G.r120
  omega
theorem Good.fewer {room : Int} {ks : List Int} {c t : Int → Int} (G : Good room ks c t) (g : Int) : Good room (ks.filter fun k => decide (k ≠ g)) c t :=
  ⟨G.nd.filter _, fun k hk => G.pos k (mem_filter_ne.mp hk).1, by
    have := List.length_filter_le (fun k => decide (k ≠ g)) ks
    have := G.len
    omega, G.r1, G.r120, fun k hk => G.one k (mem_filter_ne.mp hk).1⟩
theorem Good.more {room : Int} {ks : List Int} {c t : Int → Int} (G : Good room ks c t) {g z : Int} (hg : Least ks g) (hl : (ks.length : Int) < room) : Good room (ks ++ [g]) (set1 c g z) (set1 t g 1) :=
  ⟨nodup_snoc G.nd hg.2.1, fun k hk => by
    rcases List.mem_append.mp hk with h | h
    · exact G.pos k h
    · rw [List.mem_singleton.mp h]; exact hg.1, by
    rw [List.length_append]
    show ((ks.length + 1 : Nat) : Int) ≤ room
    omega, G.r1, G.r120, fun k hk => by
    rcases List.mem_append.mp hk with h | h
    · rw [set1_ne fun e : k = g => hg.2.1 (by rw [← e]; exact h)]; exact G.one k h
    · rw [List.mem_singleton.mp h, set1_same]; decide⟩
theorem Good.put {room : Int} {ks : List Int} {c t : Int → Int} (G : Good room ks c t) {g y : Int} (hy : 1 ≤ y) : Good room ks c (set1 t g y) :=
  ⟨G.nd, G.pos, G.len, G.r1, G.r120, fun k hk => by
    by_cases e : k = g
    · rw [e, set1_same]; exact hy
    · rw [set1_ne e]; exact G.one k hk⟩

def sp__law_step (K : PySem.W.Frag) : Sp := fun vs H Q _ => ∃ (b p st : Addr) (room : Int) (ks : List Int) (c t : Int → Int) (F : List Asn), vs = [.ref b, .ref p, .ref st] ∧ Good room ks c t ∧ Sep (Bag b :: PoolAt K p room ks c t :: StAt st room ks c t :: F) H ∧
  ∀ ks' c' t' H', Good room ks' c' t' → Sep (Bag b :: PoolAt K p room ks' c' t' :: StAt st room ks' c' t' :: F) H' → Q (.bl true) H'
theorem sc__law_step : FnScope ["_law_bag_here", "_law_pool", "_law_state", "_law_kept", "_law_way", "_law_grain", "_law_content_here", "_law_due"] ["_law_bag_here", "_law_pool", "_law_state"] (defScope s__law_step) := ⟨rfl, rfl, rfl, by decide +kernel, rfl, by decide +kernel, by decide +kernel⟩
set_option maxHeartbeats 4000000 in
theorem g__law_step (T : Tx K mg) : GFn P w K mg base CX0 "_law_step" 5 ["_law_bag_here", "_law_pool", "_law_state"] (sp__law_step K) := by
  obtain ⟨fd, FD⟩ := T.says.def_ 9 (d := d__law_step) rfl
  obtain ⟨f__law_take, fd__law_take, F__law_take, m__law_take, k__law_take, b__law_take⟩ := g__law_take (P := P) (w := w) (base := base) T
  obtain ⟨f__law_content, fd__law_content, F__law_content, m__law_content, k__law_content, b__law_content⟩ := g__law_content (P := P) (w := w) (base := base) T
  obtain ⟨f__law_free, fd__law_free, F__law_free, m__law_free, k__law_free, b__law_free⟩ := g__law_free (P := P) (w := w) (base := base) T
  obtain ⟨f_Pool_lay, fd_Pool_lay, F_Pool_lay, m_Pool_lay, k_Pool_lay⟩ := g_Pool_lay (P := P) (w := w) (base := base) T
  obtain ⟨f_Pool_hold, fd_Pool_hold, F_Pool_hold, m_Pool_hold, k_Pool_hold⟩ := g_Pool_hold (P := P) (w := w) (base := base) T
  obtain ⟨f_Pool_let_go, fd_Pool_let_go, F_Pool_let_go, m_Pool_let_go, k_Pool_let_go⟩ := g_Pool_let_go (P := P) (w := w) (base := base) T
  refine ⟨_, fd, ok0 FD sc__law_step (fun vs H Q E h => ?_) (fun cdv A outer s H vs Q E hr h => ?_), T_g__law_step T, FD.kp, FD.bindsN fun _ _ _ _ _ _ us hl => match us, hl with | [_, _, _], _ => rfl⟩
  · obtain ⟨b, p, st, room, ks, c, t, F, rfl, G, S, q⟩ := h
    rfl
  · obtain ⟨b, p, st, room, ks, c, t, F, rfl, G, S, q⟩ := h
    refine ⟨_, (pss_cons (ps_set (i := 3) sc__law_step.nd rfl (Or.inl rfl) (pe_callB (cr_sortedDI rfl) (by rfl) (T_sorted T) (by decide +kernel) (pa_cons (pe_ix ix_list (pv 2) pe_int (fun _ _ => rfl)) pa_nil)))
    (pss_cons (ps_set (i := 4) sc__law_step.nd rfl (Or.inl rfl) (pe_call F__law_take (hr.mono (by decide)) (by rfl) m__law_take k__law_take b__law_take .nil pass0 (pa_cons (pv 0) (pa_cons pe_int pa_nil))))
    (pss_cons (ps_if (PW.pt (pw_and (pt_cmpR op_lt (pe_callB n_len_seq (by rfl) (T_len T) (by decide +kernel) (pa_cons (pv 3) pa_nil)) (pe_ix ix_list (pv 2) pe_int (fun _ _ => rfl)) (nomark _)) (pw_and1 (PW.pt (pw_or (pt_cmpR (op_eqD hr.units) (pv 3) (pe_lst pa_nil) (nomark _)) (pw_or1 (pt_cmpR op_lt (pv 4) pe_int (nomark _))))))))
      (pss_cons (ps_set (i := 6) sc__law_step.nd rfl (Or.inl rfl) (pe_call F__law_content (hr.mono (by decide)) (by rfl) m__law_content k__law_content b__law_content .nil pass0 (pa_cons (pv 0) pa_nil)))
    (pss_cons (ps_set (i := 7) sc__law_step.nd rfl (Or.inl rfl) (pe_call F__law_free (hr.mono (by decide)) (by rfl) m__law_free k__law_free b__law_free .nil pass0 (pa_cons (pv 2) pa_nil)))
    (pss_cons (ps_dput (hu_of hr) (pe_ix ix_list (pv 2) pe_int (fun _ _ => rfl)) (pv 7) (pe_lst (pa_cons (pv 6) (pa_cons pe_int pa_nil))) rfl)
    (pss_one (ps_ret (pe_cmpR op_eq (pe_meth (pv 1) (T_cl_Pool T) m_Pool_lay F_Pool_lay (hr.mono (by decide)) k_Pool_lay .nil pass0 (pa_cons (pv 6) pa_nil)) (pv 7) (nomark _)))))))
      pss_nil)
    (pss_cons (ps_set (i := 5) sc__law_step.nd rfl (Or.inl rfl) (pe_ix ix_list (pv 3) (pe_call F__law_take (hr.mono (by decide)) (by rfl) m__law_take k__law_take b__law_take .nil pass0 (pa_cons (pv 0) (pa_cons (pe_callB n_len_seq (by rfl) (T_len T) (by decide +kernel) (pa_cons (pv 3) pa_nil)) pa_nil))) (fun _ _ => rfl)))
    (pss_cons (ps_if (pt_cmpR op_eq (pv 4) pe_int (nomark _))
      (pss_cons (ps_augL (pe_dget (hu_of hr) (pe_ix ix_list (pv 2) pe_int (fun _ _ => rfl)) (pv 5) (fun _ _ => rfl)) pe_int pe_int ip_add)
    (pss_one (ps_ret (pe_cmpR n_isN (pe_meth (pv 1) (T_cl_Pool T) m_Pool_hold F_Pool_hold (hr.mono (by decide)) k_Pool_hold .nil pass0 (pa_cons (pv 5) pa_nil)) pe_non (nomark _)))))
      pss_nil)
    (pss_cons (ps_augL (pe_dget (hu_of hr) (pe_ix ix_list (pv 2) pe_int (fun _ _ => rfl)) (pv 5) (fun _ _ => rfl)) pe_int pe_int ip_sub)
    (pss_cons (ps_if (pt_cmpR op_gt (pe_ix ix_list (pe_dget (hu_of hr) (pe_ix ix_list (pv 2) pe_int (fun _ _ => rfl)) (pv 5) (fun _ _ => rfl)) pe_int (fun _ _ => rfl)) pe_int (nomark _))
      (pss_one (ps_ret (pe_cmpR op_isBl (pe_meth (pv 1) (T_cl_Pool T) m_Pool_let_go F_Pool_let_go (hr.mono (by decide)) k_Pool_let_go .nil pass0 (pa_cons (pv 5) pa_nil)) pe_bl (nomark _))))
      pss_nil)
    (pss_cons (ps_expr (pe_dpop1 (pe_ix ix_list (pv 2) pe_int (fun _ _ => rfl)) (pv 5) ⟨rfl, rfl, rfl, rfl⟩))
    (pss_one (ps_ret (pe_cmpR op_isBl (pe_meth (pv 1) (T_cl_Pool T) m_Pool_let_go F_Pool_let_go (hr.mono (by decide)) k_Pool_let_go .nil pass0 (pa_cons (pv 5) pa_nil)) pe_bl (nomark _)))))))))))), ?_⟩
    walk_at "start"
    obtain ⟨d, ad, S⟩ := StAt.open (S.pull (by walk_at "pull"))
    walk_at "w"
    refine w_sortedDI (by walk_at "pull") S (tab_keys _ _) fun ys r H hp hs S => ?_
    have hyl : ys.length = ks.length := hp.length_eq
    have hl120 := G.l120
    walk_at "w"
    refine c_take (by walk_at "pull") S (by walk_at "num") (by walk_at "num") fun way H way_0 way_1 S => ?_
    walk_at "ws"
    have S := StAt.shut (st := st) (by walk_at "pull") (by walk_at "pull") (by walk_at "pull") (S.perm (M := own st (.lst [.int room, .ref d]) :: own d (.dK (tab ks fun k => .ref (ad k))) :: Stars (ks.map fun k => own (ad k) (.lst [.int (c k), .int (t k)])) :: own r (.lst (ys.map V.int)) :: PoolAt K p room ks c t :: Bag b :: F) (by walk_at "perm"))
    refine w_ifS ?_
    refine w_testB (fun bb => (bb = true → (ks.length : Int) < room) ∧ (bb = false → ys ≠ [])) (own r (.lst (ys.map V.int)) :: StAt st room ks c t :: PoolAt K p room ks c t :: Bag b :: F) (fun R' hR => ?_) (fun bb H hbb S => ?_)
    · have hroom := G.len
      have h1 := G.r1
      obtain ⟨d, ad, S⟩ := StAt.open (S.pull (by walk_at "pull"))
      walk_at "w"
      rw [List.length_map, hyl]
      have S := StAt.shut (st := st) (by walk_at "pull") (by walk_at "pull") (by walk_at "pull") (S.perm (M := own st (.lst [.int room, .ref d]) :: own d (.dK (tab ks fun k => .ref (ad k))) :: Stars (ks.map fun k => own (ad k) (.lst [.int (c k), .int (t k)])) :: own r (.lst (ys.map V.int)) :: PoolAt K p room ks c t :: Bag b :: F) (by walk_at "perm"))
      refine w_dec (fun hlt => ?_) (fun hlt => ?_)
      · walk_at "w"
        refine w_eqInts (xs := ys) (ys := []) (by walk_at "sq") (Sep.sql (xs := []) (by walk_at "pull") S) ?_
        walk_at "w"
        refine w_dec (fun he => ?_) (fun he => ?_)
        · exact hR _ _ ⟨fun _ => hlt, fun h => by cases h⟩ (S.perm (by walk_at "perm"))
        · walk_at "w"
          by_cases e : way < 2
          · rw [decide_eq_true e]
            exact hR _ _ ⟨fun _ => hlt, fun h => by cases h⟩ (S.perm (by walk_at "perm"))
          · rw [decide_eq_false e]
            exact hR _ _ ⟨fun h => (by cases h), fun _ => he⟩ (S.perm (by walk_at "perm"))
      · refine hR _ _ ⟨fun h => (by cases h), fun _ he => ?_⟩ (S.perm (by walk_at "perm"))
        rw [he] at hyl
        have : ks.length = 0 := hyl.symm
        omega
    refine w_bool (fun hb => ?_) (fun hb => ?_)
    · have hlt := hbb.1 hb
      walk_at "w"
      refine c_law_content (by walk_at "pull") S fun z H z0 z1 S => ?_
      walk_at "w"
      refine c_law_free (by walk_at "pull") S fun g hg => ?_
      obtain ⟨d, ad, S⟩ := StAt.open (S.pull (by walk_at "pull"))
      have hsz : (tab ks fun k => V.ref (ad k)).length < sizeLine := by rw [tab_len, sizeLine_eq]; omega
      walk_at "w"
      have S := StAt.more hg.2.1 (by walk_at "pull") (by walk_at "pull") (by walk_at "pull") (by walk_at "pull") S
      refine c_lay z0 z1 hlt G.r120 (by walk_at "pull") S fun g' H hg' S => ?_
      have eg := hg'.one hg
      subst eg
      walk_at "w"
      rw [decide_eq_true rfl]
      exact q _ _ _ _ (G.more hg hlt) (S.perm (by walk_at "perm"))
    · have hne := hbb.2 hb
      have hpos : 0 < ys.length := List.length_pos_iff.mpr hne
      walk_at "w"
      rw [List.length_map]
      walk_at "w"
      refine c_take (by walk_at "pull") S (by walk_at "num") (by walk_at "num") fun k H k_0 k_1 S => ?_
      walk_at "w"
      obtain ⟨g, hgy, eg⟩ := get_ints (ns := ys) k_0 (by rw [List.length_map]; exact k_1)
      have hg : g ∈ ks := hp.mem_iff.mp hgy
      have h0 := G.pos g hg
      have hnd := G.nd
      refine w_ixL (by walk_at "sq") eg ?_
      walk_at "w"
      have ht1 := G.one g hg
      refine w_dec (fun hw => ?_) (fun hw => ?_)
      · obtain ⟨d, ad, S⟩ := StAt.open1 hnd hg (S.pull (by walk_at "pull"))
        walk_at "w"
        have S := StAt.shut1 (st := st) (room := room) (t := t) hnd hg (by walk_at "pull") (by walk_at "pull") (by walk_at "pull") (by walk_at "pull") S
        refine c_hold h0 hg hl120 (by walk_at "pull") S fun H S => ?_
        walk_at "w"
        exact q _ _ _ _ (G.put (g := g) (y := t g + 1) (by omega)) (S.perm (by walk_at "perm"))
      · walk_at "w"
        obtain ⟨d, ad, S⟩ := StAt.open1 hnd hg (S.pull (by walk_at "pull"))
        walk_at "w"
        have S := StAt.shut1 (st := st) (room := room) (t := t) hnd hg (by walk_at "pull") (by walk_at "pull") (by walk_at "pull") (by walk_at "pull") S
        refine w_dec (fun ht => ?_) (fun ht => ?_)
        · walk_at "w"
          refine c_let_go (t := t) (c := c) (room := room) h0 hg hl120 ht1 (by walk_at "pull") S (fun ht H S => ?_) (fun ht H S => ?_)
          · omega
          · walk_at "w"
            walk_at "w"
            exact q _ _ _ _ (G.put (g := g) (y := t g - 1) (by omega)) (S.perm (by walk_at "perm"))
        · walk_at "w"
          obtain ⟨d, ad, S⟩ := StAt.open (S.pull (by walk_at "pull"))
          walk_at "w"
          refine w_dpopI (by walk_at "pull") S (valV_in' hg) fun H S => ?_
          walk_at "w"
          have S := StAt.fewer hnd hg (by walk_at "pull") (by walk_at "pull") (by walk_at "pull") S
          rw [StAt.congr (t' := t) (c' := c) (fun _ _ => rfl) fun k hk => by rw [set1_ne (mem_filter_ne.mp hk).2]] at S
          refine c_let_go (t := t) (c := c) (room := room) h0 hg hl120 ht1 (by walk_at "pull") S (fun ht H S => ?_) (fun ht H S => ?_)
          · walk_at "w"
            walk_at "w"
            exact q _ _ _ _ (G.fewer g) (S.perm (by walk_at "perm"))
          · omega
theorem c_law_step {b p st : Addr} {room : Int} {ks : List Int} {c t : Int → Int} {H : Hp} {Q : VK} {E : XK} {L F : List Asn} (G : Good room ks c t) (m : Perms L (Bag b :: PoolAt K p room ks c t :: StAt st room ks c t :: F)) (S : Sep L H)
    (q : ∀ ks' c' t' H', Good room ks' c' t' → Sep (Bag b :: PoolAt K p room ks' c' t' :: StAt st room ks' c' t' :: F) H' → Q (.bl true) H') : sp__law_step K ([.ref b, .ref p, .ref st] ++ []) H Q E := ⟨b, p, st, room, ks, c, t, F, rfl, G, S.perm m, q⟩

def sp_law (K : PySem.W.Frag) : Sp := fun vs H Q _ => ∃ (a : Addr) (ns : List Int), vs = [.ref a] ∧ SqL K H a (ns.map V.int) ∧ ns.length ≤ 63 ∧ ∀ H', Q (.bl true) H'
theorem law_in (H : Hp) (a : Addr) (ns : List Int) (hl : ns.length ≤ 63) (hz : ∀ z ∈ ns, Builtin.Int.intBits z ≤ 1048576) (hS : SqL K H a (ns.map V.int)) : sp_law K [.ref a] H (fun v _ => v = .bl true) fun _ _ _ => False := ⟨a, ns, rfl, hS, hl, fun _ => rfl⟩
theorem c_law_bag {a : Addr} {ns : List Int} {H : Hp} {Q : VK} {E : XK} (hS : SqL K H a (ns.map V.int)) (hl : ns.length ≤ 63) (q : ∀ b H', Sep [Bag b] H' → Q (.ref b) H') : sp__law_bag K ([.ref a] ++ []) H Q E :=
  ⟨a, ns, [Sh fun H => SqL K H a (ns.map V.int)], rfl, hS, hl, fun H' S => S.sh up_sql .here, Sep.start hS, fun b H' S => q b H' (S.perm (.cons .here .nilS))⟩
/-- lists that were handed out, each beside its copy -/
def HeldP (xs : List (Addr × Addr × Addr × List Int)) : Hp → Prop := fun H => ∀ x ∈ xs, H x.1 = some (.tup [.ref x.2.1, .ref x.2.2.1]) ∧ H x.2.1 = some (.lst (x.2.2.2.map V.int)) ∧ H x.2.2.1 = some (.lst (x.2.2.2.map V.int))
theorem up_held {xs : List (Addr × Addr × Addr × List Int)} : Up (HeldP xs) := fun H H' h k x hx => ⟨h _ _ (k x hx).1, h _ _ (k x hx).2.1, h _ _ (k x hx).2.2⟩
theorem held_more {xs : List (Addr × Addr × Addr × List Int)} {t r1 r2 : Addr} {ys : List Int} {L : List Asn} {H : Hp} (S : Sep (ro t (.tup [.ref r1, .ref r2]) :: ro r1 (.lst (ys.map V.int)) :: ro r2 (.lst (ys.map V.int)) :: Sh (HeldP xs) :: L) H) :
    Sep (Sh (HeldP (xs ++ [(t, r1, r2, ys)])) :: L) H := by
  have S := Sep.and up_at up_at S
  have S := Sep.and (fun H H' h k => ⟨h _ _ k.1, h _ _ k.2⟩) up_at S
  have S := Sep.and (fun H H' h k => ⟨⟨h _ _ k.1.1, h _ _ k.1.2⟩, h _ _ k.2⟩) up_held S
  exact S.conv fun g k x hx => by
    rcases List.mem_append.mp hx with h | h
    · exact k.2 x h
    · rw [List.mem_singleton.mp h]
      exact ⟨k.1.1.1, k.1.1.2, k.1.2⟩
structure W2 where
  p : Int → Addr
  st : Int → Addr
  room : Int → Int
  ks : Int → List Int
  c : Int → Int → Int
  t : Int → Int → Int
def W2.PA (K : PySem.W.Frag) (w : W2) (j : Int) : Asn := PoolAt K (w.p j) (w.room j) (w.ks j) (w.c j) (w.t j)
def W2.SA (w : W2) (j : Int) : Asn := StAt (w.st j) (w.room j) (w.ks j) (w.c j) (w.t j)
def W2.put (w : W2) (k : Int) (ks : List Int) (c t : Int → Int) : W2 := { w with ks := set1 w.ks k ks, c := set1 w.c k c, t := set1 w.t k t }
def W2.G (w : W2) (j : Int) : Prop := Good (w.room j) (w.ks j) (w.c j) (w.t j)
theorem W2.to {w : W2} {k : Int} {L : List Asn} {H : Hp} (hk : k = 0 ∨ k = 1) (S : Sep (w.PA K 0 :: w.SA 0 :: w.PA K 1 :: w.SA 1 :: L) H) : Sep (w.PA K k :: w.SA k :: w.PA K (1 - k) :: w.SA (1 - k) :: L) H := by
  rcases hk with rfl | rfl
  · exact S
  · exact S.perm (.cons (.there (.there .here)) (.cons (.there (.there .here)) (.cons .here (.cons .here .refl))))
theorem W2.back {w : W2} {k : Int} {L : List Asn} {H : Hp} (hk : k = 0 ∨ k = 1) (S : Sep (w.PA K k :: w.SA k :: w.PA K (1 - k) :: w.SA (1 - k) :: L) H) : Sep (w.PA K 0 :: w.SA 0 :: w.PA K 1 :: w.SA 1 :: L) H := by
  rcases hk with rfl | rfl
  · exact S
  · exact S.perm (.cons (.there (.there .here)) (.cons (.there (.there .here)) (.cons .here (.cons .here .refl))))
theorem W2.put_PA {w : W2} {k : Int} {ks : List Int} {c t : Int → Int} : (w.put k ks c t).PA K k = PoolAt K (w.p k) (w.room k) ks c t := by
  show PoolAt K (w.p k) (w.room k) (set1 w.ks k ks k) (set1 w.c k c k) (set1 w.t k t k) = _
  rw [set1_same, set1_same, set1_same]
theorem W2.put_SA {w : W2} {k : Int} {ks : List Int} {c t : Int → Int} : (w.put k ks c t).SA k = StAt (w.st k) (w.room k) ks c t := by
  show StAt (w.st k) (w.room k) (set1 w.ks k ks k) (set1 w.c k c k) (set1 w.t k t k) = _
  rw [set1_same, set1_same, set1_same]
theorem W2.put_PA' {w : W2} {k j : Int} {ks : List Int} {c t : Int → Int} (h : j ≠ k) : (w.put k ks c t).PA K j = w.PA K j := by
  show PoolAt K (w.p j) (w.room j) (set1 w.ks k ks j) (set1 w.c k c j) (set1 w.t k t j) = _
  rw [set1_ne h, set1_ne h, set1_ne h]
  rfl
theorem W2.put_SA' {w : W2} {k j : Int} {ks : List Int} {c t : Int → Int} (h : j ≠ k) : (w.put k ks c t).SA j = w.SA j := by
  show StAt (w.st j) (w.room j) (set1 w.ks k ks j) (set1 w.c k c j) (set1 w.t k t j) = _
  rw [set1_ne h, set1_ne h, set1_ne h]
  rfl
theorem W2.put_G {w : W2} {k j : Int} {ks : List Int} {c t : Int → Int} (h : w.G j) (g : Good (w.room k) ks c t) : (w.put k ks c t).G j := by
  show Good (w.room j) (set1 w.ks k ks j) (set1 w.c k c j) (set1 w.t k t j)
  by_cases e : j = k
  · subst e
    rw [set1_same, set1_same, set1_same]
    exact g
  · rw [set1_ne e, set1_ne e, set1_ne e]
    exact h
theorem W2.gk {w : W2} {k : Int} (hk : k = 0 ∨ k = 1) (h : w.G 0 ∧ w.G 1) : w.G k := by
  rcases hk with rfl | rfl
  · exact h.1
  · exact h.2
theorem at2 {f : Int → Addr} {k : Int} (hk : k = 0 ∨ k = 1) : atI [V.ref (f 0), .ref (f 1)] k = some (.ref (f k)) := by
  rcases hk with rfl | rfl <;> rfl
def two (a b : Addr) : Int → Addr := fun j => if j = 0 then a else b
theorem st_new {st d : Addr} {room : Int} {L : List Asn} {H : Hp} (S : Sep (own st (.lst [.int room, .ref d]) :: own d (.dK []) :: L) H) : Sep (StAt st room [] (fun _ => 0) (fun _ => 0) :: L) H := by
  have S1 : Sep (own st (.lst [.int room, .ref d]) :: own d (.dK []) :: Stars [] :: L) H := (S.add (A := Stars []) True.intro).perm (.cons (.there .here) (.cons (.there .here) (.cons .here .refl)))
  exact StAt.shut (ks := []) (c := fun _ => 0) (t := fun _ => 0) (a := fun _ => 0) .here .here .here S1
theorem sc_law : FnScope ["_law_script", "_law_bag_here", "_law_rooms", "_law_pools", "_law_states", "_law_held", "_law_turn", "_law_j", "_law_k", "_law_told", "_law_again", "_law_room", "_law_kept"] ["_law_script"] (defScope s_law) := ⟨rfl, rfl, rfl, by decide +kernel, rfl, by decide +kernel, by decide +kernel⟩
set_option maxHeartbeats 8000000 in
theorem ok_law (T : Tx K mg) {f : Addr} {fd : FuncData} (FD : FunD K "law" "law" (defArgs s_law) (defBody s_law) (defScope s_law) (d_law.dvs K) (d_law.kws K) f fd) : FnOk P w K mg base CX0 6 f fd ["_law_script"] (sp_law K) := by
  obtain ⟨f__law_bag, fd__law_bag, F__law_bag, m__law_bag, k__law_bag, b__law_bag⟩ := g__law_bag (P := P) (w := w) (base := base) T
  obtain ⟨f__law_take, fd__law_take, F__law_take, m__law_take, k__law_take, b__law_take⟩ := g__law_take (P := P) (w := w) (base := base) T
  obtain ⟨f_Pool___init__, fd_Pool___init__, F_Pool___init__, m_Pool___init__, k_Pool___init__, b_Pool___init__⟩ := g_Pool___init__ (P := P) (w := w) (base := base) T
  obtain ⟨f__law_step, fd__law_step, F__law_step, m__law_step, k__law_step, b__law_step⟩ := g__law_step (P := P) (w := w) (base := base) T
  obtain ⟨f_Pool_kept, fd_Pool_kept, F_Pool_kept, m_Pool_kept, k_Pool_kept⟩ := g_Pool_kept (P := P) (w := w) (base := base) T
  obtain ⟨f__law_right, fd__law_right, F__law_right, m__law_right, k__law_right, b__law_right⟩ := g__law_right (P := P) (w := w) (base := base) T
  refine ok0 FD sc_law (fun vs H Q E h => ?_) (fun cdv A outer s H vs Q E hr h => ?_)
  · obtain ⟨a, ns, rfl, hS, hl, q⟩ := h
    rfl
  · obtain ⟨a, ns, rfl, hS, hl, q⟩ := h
    refine ⟨_, (pss_cons (ps_set (i := 1) sc_law.nd rfl (Or.inl rfl) (pe_call F__law_bag (hr.mono (by decide)) (by rfl) m__law_bag k__law_bag b__law_bag .nil pass0 (pa_cons (pv 0) pa_nil)))
    (pss_cons (ps_set (i := 2) sc_law.nd rfl (Or.inl rfl) (pe_lst (pa_cons (pe_op op_add pe_int (pe_call F__law_take (hr.mono (by decide)) (by rfl) m__law_take k__law_take b__law_take .nil pass0 (pa_cons (pv 1) (pa_cons pe_int pa_nil)))) (pa_cons (pe_op op_add pe_int (pe_call F__law_take (hr.mono (by decide)) (by rfl) m__law_take k__law_take b__law_take .nil pass0 (pa_cons (pv 1) (pa_cons pe_int pa_nil)))) pa_nil))))
    (pss_cons (ps_asg (pe_ix ix_list (pv 2) (pe_call F__law_take (hr.mono (by decide)) (by rfl) m__law_take k__law_take b__law_take .nil pass0 (pa_cons (pv 1) (pa_cons pe_int pa_nil))) (fun _ _ => rfl)) (pg_sub (pv 2) pe_int set_list))
    (pss_cons (ps_setLc (i := 3) (own := [("_law_room", 11)]) (g := gName 11) (by rfl) sc_law.nd rfl rfl (sw_true rfl rfl rfl (by decide +kernel)) (pi_list (pv 2)) (blkOk_by (own := [("_law_room", 11)]) (N := ["_law_script", "_law_bag_here", "_law_rooms", "_law_pools", "_law_states", "_law_held", "_law_turn", "_law_j", "_law_k", "_law_told", "_law_again", "_law_room", "_law_kept"]) (sc := defScope s_law) (by decide +kernel)) (fun _ _ _ _ _ => pg_name (i := 11) sc_law.nd rfl (Or.inl rfl)) (fun _ _ _ _ _ => pts_nil) (fun _ _ _ _ _ => (pe_make m_Pool___init__ F_Pool___init__ (hr.mono (by decide)) (by rfl) k_Pool___init__ b_Pool___init__ .nil pass0 (pa_cons (pv 11) pa_nil))))
    (pss_cons (ps_setLc (i := 4) (own := [("_law_room", 11)]) (g := gName 11) (by rfl) sc_law.nd rfl rfl (sw_true rfl rfl rfl (by decide +kernel)) (pi_list (pv 2)) (blkOk_by (own := [("_law_room", 11)]) (N := ["_law_script", "_law_bag_here", "_law_rooms", "_law_pools", "_law_states", "_law_held", "_law_turn", "_law_j", "_law_k", "_law_told", "_law_again", "_law_room", "_law_kept"]) (sc := defScope s_law) (by decide +kernel)) (fun _ _ _ _ _ => pg_name (i := 11) sc_law.nd rfl (Or.inl rfl)) (fun _ _ _ _ _ => pts_nil) (fun _ _ _ _ _ => (pe_lst (pa_cons (pv 11) (pa_cons pe_dnewK pa_nil)))))
    (pss_cons (ps_set (i := 5) sc_law.nd rfl (Or.inl rfl) (pe_lst pa_nil))
    (pss_cons (ps_for PassesOwn.never rfl (pi_range1 (by rfl) (T_range T) (pa_cons (pe_op op_add pe_int (pe_call F__law_take (hr.mono (by decide)) (by rfl) m__law_take k__law_take b__law_take .nil pass0 (pa_cons (pv 1) (pa_cons pe_int pa_nil)))) pa_nil)) (pg_name (i := 6) sc_law.nd rfl (Or.inl rfl))
      (pss_cons (ps_set (i := 8) sc_law.nd rfl (Or.inl rfl) (pe_call F__law_take (hr.mono (by decide)) (by rfl) m__law_take k__law_take b__law_take .nil pass0 (pa_cons (pv 1) (pa_cons pe_int pa_nil))))
    (pss_cons (ps_if (pt_not (pt_val (pe_call F__law_step (hr.mono (by decide)) (by rfl) m__law_step k__law_step b__law_step .nil pass0 (pa_cons (pv 1) (pa_cons (pe_ix ix_list (pv 3) (pv 8) (fun _ _ => rfl)) (pa_cons (pe_ix ix_list (pv 4) (pv 8) (fun _ _ => rfl)) pa_nil))))))
      (pss_one (ps_ret pe_bl))
      pss_nil)
    (pss_cons (ps_set (i := 9) sc_law.nd rfl (Or.inl rfl) (pe_meth0 (pe_ix ix_list (pv 3) (pe_op op_sub pe_int (pv 8)) (fun _ _ => rfl)) (T_cl_Pool T) m_Pool_kept F_Pool_kept (hr.mono (by decide)) k_Pool_kept .nil pass0))
    (pss_cons (ps_expr (pe_bm PySem.F.plainAttrs_list PySem.F.slot_list_append PySem.F.type_list_append mt_append (pv 5) (pa_cons (pe_tup (pa_cons (pv 9) (pa_cons (pe_callTy n_list_of (by rfl) (T_list T) (by decide +kernel) (pa_cons (pv 9) pa_nil)) pa_nil))) pa_nil)))
    (pss_cons (ps_set (i := 10) sc_law.nd rfl (Or.inl rfl) (pe_meth0 (pe_ix ix_list (pv 3) (pv 8) (fun _ _ => rfl)) (T_cl_Pool T) m_Pool_kept F_Pool_kept (hr.mono (by decide)) k_Pool_kept .nil pass0))
    (pss_cons (ps_expr (pe_bm PySem.F.plainAttrs_list PySem.F.slot_list_append PySem.F.type_list_append mt_append (pv 10) (pa_cons pe_int pa_nil)))
    (pss_cons (ps_expr (pe_bm0 PySem.F.plainAttrs_list PySem.F.slot_list_reverse PySem.F.type_list_reverse mt_reverse (pv 10)))
    (pss_one (ps_if (pt_cmpR op_eq (pe_call F__law_take (hr.mono (by decide)) (by rfl) m__law_take k__law_take b__law_take .nil pass0 (pa_cons (pv 1) (pa_cons pe_int pa_nil))) pe_int (nomark _))
      (pss_one (ps_for PassesOwn.never rfl (pi_range1 (by rfl) (T_range T) (pa_cons pe_int pa_nil)) (pg_name (i := 7) sc_law.nd rfl (Or.inl rfl))
      (pss_one (ps_if (pt_not (pt_val (pe_call F__law_right (hr.mono (by decide)) (by rfl) m__law_right k__law_right b__law_right .nil pass0 (pa_cons (pe_ix ix_list (pv 3) (pv 7) (fun _ _ => rfl)) (pa_cons (pe_ix ix_list (pv 4) (pv 7) (fun _ _ => rfl)) pa_nil)))))
      (pss_one (ps_ret pe_bl))
      pss_nil))))
      pss_nil))))))))))
    (pss_cons (ps_for PassesOwn.never rfl (pi_range1 (by rfl) (T_range T) (pa_cons pe_int pa_nil)) (pg_name (i := 7) sc_law.nd rfl (Or.inl rfl))
      (pss_one (ps_if (pt_not (pt_val (pe_call F__law_right (hr.mono (by decide)) (by rfl) m__law_right k__law_right b__law_right .nil pass0 (pa_cons (pe_ix ix_list (pv 3) (pv 7) (fun _ _ => rfl)) (pa_cons (pe_ix ix_list (pv 4) (pv 7) (fun _ _ => rfl)) pa_nil)))))
      (pss_one (ps_ret pe_bl))
      pss_nil)))
    (pss_one (ps_ret (pe_callB (cr_all rfl) (by rfl) (T_all T) (by decide +kernel) (pa_cons (pe_lc (own := [("_law_told", 9), ("_law_kept", 12)]) (g := gTup K 2 (gCons (gName 9) (gCons (gName 12) gNil))) (by rfl) sc_law.nd (pi_list (pv 5)) (blkOk_by (own := [("_law_told", 9), ("_law_kept", 12)]) (N := ["_law_script", "_law_bag_here", "_law_rooms", "_law_pools", "_law_states", "_law_held", "_law_turn", "_law_j", "_law_k", "_law_told", "_law_again", "_law_room", "_law_kept"]) (sc := defScope s_law) (by decide +kernel)) (fun _ _ _ _ _ => pg_tup rfl (pgs_cons (pg_name (i := 9) sc_law.nd rfl (Or.inl rfl)) (pgs_cons (pg_name (i := 12) sc_law.nd rfl (Or.inl rfl)) pgs_nil))) (fun _ _ _ _ _ => pts_nil) (fun _ _ _ _ _ => (pe_cmpR (kOp (r := rEqD K) (op_eqD hr.units)) (pv 9) (pv 12) (nomark _)))) pa_nil)))))))))))), ?_⟩
    walk_at "start"
    walk_at "w"
    refine c_law_bag hS hl fun b H S => ?_
    walk_at "w"
    refine c_take (by walk_at "pull") S (by walk_at "num") (by walk_at "num") fun r1 H r1_0 r1_1 S => ?_
    walk_at "w"
    walk_at "w"
    refine c_take (by walk_at "pull") S (by walk_at "num") (by walk_at "num") fun r2 H r2_0 r2_1 S => ?_
    walk_at "w"
    rename Addr => rl
    walk_at "w"
    refine c_take (by walk_at "pull") S (by walk_at "num") (by walk_at "num") fun r3 H r3_0 r3_1 S => ?_
    walk_at "w"
    obtain ⟨room, er, hr1, hr2⟩ := pick2 r3_0 r3_1 (P := fun z => 1 ≤ z ∧ z ≤ 120) (a := 1 + r1) (b := 1 + r2) (by omega) (by omega)
    refine w_ixL (by walk_at "sq") er ?_
    walk_at "w"
    have S := S.perm (M := [own rl (.lst [.int (1 + r1), .int room]), Bag b]) (by walk_at "perm")
    refine w_lcL (xs := [.int (1 + r1), .int room]) S (fun i acc M => match i with
        | 0 => acc = [] ∧ M = [own rl (.lst [.int (1 + r1), .int room]), Bag b]
        | 1 => ∃ p0 : Addr, acc = [.ref p0] ∧ M = [PoolAt K p0 (1 + r1) [] (fun _ => 0) fun _ => 0, own rl (.lst [.int (1 + r1), .int room]), Bag b]
        | _ => ∃ p0 p1 : Addr, acc = [.ref p0, .ref p1] ∧ M = [PoolAt K p1 room [] (fun _ => 0) fun _ => 0, PoolAt K p0 (1 + r1) [] (fun _ => 0) fun _ => 0, own rl (.lst [.int (1 + r1), .int room]), Bag b]) ⟨rfl, rfl⟩ ?_ ?_ ?_
    · intro i acc M H' hi hI S'
      have hi : i ≤ 2 := hi
      match i, hi, hI with
      | 0, _, hI => rw [hI.2] at S'; exact Sep.sql .here S'
      | 1, _, hI => obtain ⟨p0, _, e⟩ := hI; rw [e] at S'; exact Sep.sql (.there .here) S'
      | 2, _, hI => obtain ⟨p0, p1, _, e⟩ := hI; rw [e] at S'; exact Sep.sql (.there (.there .here)) S'
    · intro D i x acc M H' hx hI S
      match i, hx, hI with
      | 0, hx, hI =>
        obtain ⟨rfl, rfl⟩ := hI
        cases hx
        walk_at "w"
        refine ⟨rfl, ?_⟩
        walk_at "w"
        refine c_Pool (room := 1 + r1) (by omega) (by omega) .here S fun H S => ⟨rfl, ?_⟩
        exact LcT.mk (acc := []) (.there .here) S (by rw [sizeLine_eq]; decide) ⟨_, rfl, rfl⟩
      | 1, hx, hI =>
        obtain ⟨p0, rfl, rfl⟩ := hI
        cases hx
        walk_at "w"
        refine ⟨rfl, ?_⟩
        walk_at "w"
        refine c_Pool (room := room) hr1 hr2 .here S fun H S => ⟨rfl, ?_⟩
        exact LcT.mk (acc := [.ref p0]) (.there .here) S (by walk_at "num") ⟨_, _, rfl, by rfl⟩
      | i + 2, hx, hI => cases hx
    intro pl acc M H hI S
    obtain ⟨p0, p1, rfl, rfl⟩ := hI
    walk_at "w"
    have S := S.perm (M := [own rl (.lst [.int (1 + r1), .int room]), Bag b, PoolAt K p1 room [] (fun _ => 0) (fun _ => 0), PoolAt K p0 (1 + r1) [] (fun _ => 0) fun _ => 0, own pl (.lst [.ref p0, .ref p1])]) (by walk_at "perm")
    refine w_lcL (xs := [.int (1 + r1), .int room]) S (fun i acc M => match i with
        | 0 => acc = [] ∧ M = [own rl (.lst [.int (1 + r1), .int room]), Bag b, PoolAt K p1 room [] (fun _ => 0) (fun _ => 0), PoolAt K p0 (1 + r1) [] (fun _ => 0) fun _ => 0, own pl (.lst [.ref p0, .ref p1])]
        | 1 => ∃ s0 : Addr, acc = [.ref s0] ∧ M = [own rl (.lst [.int (1 + r1), .int room]), StAt s0 (1 + r1) [] (fun _ => 0) (fun _ => 0), Bag b, PoolAt K p1 room [] (fun _ => 0) (fun _ => 0), PoolAt K p0 (1 + r1) [] (fun _ => 0) fun _ => 0, own pl (.lst [.ref p0, .ref p1])]
        | _ => ∃ s0 s1 : Addr, acc = [.ref s0, .ref s1] ∧ M = [own rl (.lst [.int (1 + r1), .int room]), StAt s1 room [] (fun _ => 0) (fun _ => 0), StAt s0 (1 + r1) [] (fun _ => 0) (fun _ => 0), Bag b, PoolAt K p1 room [] (fun _ => 0) (fun _ => 0), PoolAt K p0 (1 + r1) [] (fun _ => 0) fun _ => 0, own pl (.lst [.ref p0, .ref p1])]) ⟨rfl, rfl⟩ ?_ ?_ ?_
    · intro i acc M H' hi hI S'
      have hi : i ≤ 2 := hi
      match i, hi, hI with
      | 0, _, hI => rw [hI.2] at S'; exact Sep.sql .here S'
      | 1, _, hI => obtain ⟨p0, _, e⟩ := hI; rw [e] at S'; exact Sep.sql .here S'
      | 2, _, hI => obtain ⟨p0, p1, _, e⟩ := hI; rw [e] at S'; exact Sep.sql .here S'
    · intro D i x acc M H' hx hI S
      match i, hx, hI with
      | 0, hx, hI =>
        obtain ⟨rfl, rfl⟩ := hI
        cases hx
        walk_at "w"
        refine ⟨rfl, ?_⟩
        walk_at "w"
        have S := st_new S
        exact LcT.mk (acc := []) (M := [own rl (.lst [.int (1 + r1), .int room]), StAt _ (1 + r1) [] (fun _ => 0) (fun _ => 0), Bag b, PoolAt K p1 room [] (fun _ => 0) (fun _ => 0), PoolAt K p0 (1 + r1) [] (fun _ => 0) fun _ => 0, own pl (.lst [.ref p0, .ref p1])]) .here
          (S.perm (M := own D (.lst []) :: own rl (.lst [.int (1 + r1), .int room]) :: StAt _ (1 + r1) [] (fun _ => 0) (fun _ => 0) :: Bag b :: PoolAt K p1 room [] (fun _ => 0) (fun _ => 0) :: PoolAt K p0 (1 + r1) [] (fun _ => 0) (fun _ => 0) :: own pl (.lst [.ref p0, .ref p1]) :: []) (by walk_at "perm")) (by walk_at "num") ⟨_, rfl, rfl⟩
      | 1, hx, hI =>
        obtain ⟨s0, rfl, rfl⟩ := hI
        cases hx
        walk_at "w"
        refine ⟨rfl, ?_⟩
        walk_at "w"
        have S := st_new S
        exact LcT.mk (acc := [.ref s0]) (M := [own rl (.lst [.int (1 + r1), .int room]), StAt _ room [] (fun _ => 0) (fun _ => 0), StAt s0 (1 + r1) [] (fun _ => 0) (fun _ => 0), Bag b, PoolAt K p1 room [] (fun _ => 0) (fun _ => 0), PoolAt K p0 (1 + r1) [] (fun _ => 0) fun _ => 0, own pl (.lst [.ref p0, .ref p1])]) .here
          (S.perm (M := own D (.lst [.ref s0]) :: own rl (.lst [.int (1 + r1), .int room]) :: StAt _ room [] (fun _ => 0) (fun _ => 0) :: StAt s0 (1 + r1) [] (fun _ => 0) (fun _ => 0) :: Bag b :: PoolAt K p1 room [] (fun _ => 0) (fun _ => 0) :: PoolAt K p0 (1 + r1) [] (fun _ => 0) (fun _ => 0) :: own pl (.lst [.ref p0, .ref p1]) :: []) (by walk_at "perm")) (by walk_at "num") ⟨_, _, rfl, by rfl⟩
      | i + 2, hx, hI => cases hx
    intro sl acc M H hI S
    obtain ⟨s0, s1, rfl, rfl⟩ := hI
    walk_at "w"
    rename Addr => hd
    walk_at "w"
    refine c_take (by walk_at "pull") S (by walk_at "num") (by walk_at "num") fun turns H turns_0 turns_1 S => ?_
    walk_at "w"
    let w0 : W2 := ⟨two p0 p1, two s0 s1, fun j => if j = 0 then 1 + r1 else room, fun _ => [], fun _ _ => 0, fun _ _ => 0⟩
    have g0 : w0.G 0 := ⟨List.nodup_nil, fun _ h => (by cases h), by show (0 : Int) ≤ 1 + r1; omega, by show 1 ≤ 1 + r1; omega, by show 1 + r1 ≤ 120; omega, fun _ h => by cases h⟩
    have g1 : w0.G 1 := ⟨List.nodup_nil, fun _ h => (by cases h), by show (0 : Int) ≤ room; omega, by show 1 ≤ room; omega, by show room ≤ 120; omega, fun _ h => by cases h⟩
    have S : Sep [w0.PA K 0, w0.SA 0, w0.PA K 1, w0.SA 1, Bag b, own pl (.lst [.ref (w0.p 0), .ref (w0.p 1)]), own sl (.lst [.ref (w0.st 0), .ref (w0.st 1)]), own hd (.lst []), Sh (HeldP [])] H :=
      (S.add (A := Sh (HeldP [])) fun x hx => by cases hx).perm (M := PoolAt K p0 (1 + r1) [] (fun _ => 0) (fun _ => 0) :: StAt s0 (1 + r1) [] (fun _ => 0) (fun _ => 0) :: PoolAt K p1 room [] (fun _ => 0) (fun _ => 0) :: StAt s1 room [] (fun _ => 0) (fun _ => 0) :: Bag b :: own pl (.lst [.ref p0, .ref p1]) :: own sl (.lst [.ref s0, .ref s1]) :: own hd (.lst []) :: Sh (HeldP []) :: []) (by walk_at "perm")
    refine w_forR (fun i σ H => ∃ (w : W2) (items : List (Addr × Addr × Addr × List Int)) (v6 v7 v8 v9 v10 : Option V), σ = [some (.ref a), some (.ref b), some (.ref rl), some (.ref pl), some (.ref sl), some (.ref hd), v6, v7, v8, v9, v10, none, none] ∧ (w.G 0 ∧ w.G 1) ∧ items.length = i ∧
        Sep [w.PA K 0, w.SA 0, w.PA K 1, w.SA 1, Bag b, own pl (.lst [.ref (w.p 0), .ref (w.p 1)]), own sl (.lst [.ref (w.st 0), .ref (w.st 1)]), own hd (.lst (items.map fun x => .ref x.1)), Sh (HeldP items)] H)
      ⟨w0, [], none, none, none, none, none, rfl, ⟨g0, g1⟩, rfl, S⟩ ?_ ?_
    · clear S g0 g1 w0
      rintro i σ H hi ⟨w0, items, v6, v7, v8, v9, v10, rfl, G, hit, S⟩
      walk_at "w"
      refine c_take (by walk_at "pull") S (by walk_at "num") (by walk_at "num") fun k H k_0 k_1 S => ?_
      walk_at "w"
      have hk : k = 0 ∨ k = 1 := by omega
      have S := W2.to hk (S.perm (M := w0.PA K 0 :: w0.SA 0 :: w0.PA K 1 :: w0.SA 1 :: Bag b :: own pl (.lst [.ref (w0.p 0), .ref (w0.p 1)]) :: own sl (.lst [.ref (w0.st 0), .ref (w0.st 1)]) :: own hd (.lst (items.map fun x => .ref x.1)) :: Sh (HeldP items) :: []) (by walk_at "perm"))
      refine w_ixL (by walk_at "sq") (at2 (f := w0.p) hk) ?_
      walk_at "w"
      refine w_ixL (by walk_at "sq") (at2 (f := w0.st) hk) ?_
      walk_at "w"
      have S : Sep [PoolAt K (w0.p k) (w0.room k) (w0.ks k) (w0.c k) (w0.t k), StAt (w0.st k) (w0.room k) (w0.ks k) (w0.c k) (w0.t k), w0.PA K (1 - k), w0.SA (1 - k), Bag b, own pl (.lst [.ref (w0.p 0), .ref (w0.p 1)]), own sl (.lst [.ref (w0.st 0), .ref (w0.st 1)]), own hd (.lst (items.map fun x => .ref x.1)), Sh (HeldP items)] H := S
      refine c_law_step (W2.gk hk G) (by walk_at "perm") S fun ks c t H g S => ?_
      walk_at "w"
      have hk' : (1 - k) = 0 ∨ (1 - k) = 1 := by omega
      have hne : (1 - k) ≠ k := by omega
      refine w_ixL (by walk_at "sq") (at2 (f := w0.p) hk') ?_
      have G := (⟨W2.put_G G.1 g, W2.put_G G.2 g⟩ : (w0.put k ks c t).G 0 ∧ (w0.put k ks c t).G 1)
      rw [← W2.put_PA (w := w0), ← W2.put_SA (w := w0), ← W2.put_PA' (w := w0) (ks := ks) (c := c) (t := t) hne, ← W2.put_SA' (w := w0) (ks := ks) (c := c) (t := t) hne] at S
      have e1 : w0.p = (w0.put k ks c t).p := rfl
      have e2 : w0.st = (w0.put k ks c t).st := rfl
      rw [e1, e2] at S
      rw [e1]
      clear g e1 e2
      generalize w0.put k ks c t = w1 at S G ⊢
      have S : Sep [Bag b, PoolAt K (w1.p k) (w1.room k) (w1.ks k) (w1.c k) (w1.t k), StAt (w1.st k) (w1.room k) (w1.ks k) (w1.c k) (w1.t k), PoolAt K (w1.p (1 - k)) (w1.room (1 - k)) (w1.ks (1 - k)) (w1.c (1 - k)) (w1.t (1 - k)), StAt (w1.st (1 - k)) (w1.room (1 - k)) (w1.ks (1 - k)) (w1.c (1 - k)) (w1.t (1 - k)), own pl (.lst [.ref (w1.p 0), .ref (w1.p 1)]), own sl (.lst [.ref (w1.st 0), .ref (w1.st 1)]), own hd (.lst (items.map fun x => .ref x.1)), Sh (HeldP items)] H := S
      have l1 := (W2.gk hk' G).l120
      have l2 := (W2.gk hk G).l120
      walk_at "w"
      refine c_kept (by walk_at "pull") S fun ys r1' H hp hs S => ?_
      walk_at "w"
      rename_i cp Hx Sx Hy Sy
      have S1 := (S.pull (A := own r1' (.lst (ys.map V.int))) (by walk_at "pull")).freeze
      have S2 := (S1.pull (A := own cp (.lst (ys.map V.int))) (by walk_at "pull")).freeze
      have S3 := held_more (t := pn) (r1 := r1') (r2 := cp) (S2.perm (M := ro pn (.tup [.ref r1', .ref cp]) :: ro r1' (.lst (ys.map V.int)) :: ro cp (.lst (ys.map V.int)) :: Sh (HeldP items) :: _) (.cons (by walk_at "pull") (.cons (by walk_at "pull") (.cons (by walk_at "pull") (.cons (by walk_at "pull") .refl)))))
      have S := S3.perm (M := Bag b :: PoolAt K (w1.p k) (w1.room k) (w1.ks k) (w1.c k) (w1.t k) :: StAt (w1.st k) (w1.room k) (w1.ks k) (w1.c k) (w1.t k) :: PoolAt K (w1.p (1 - k)) (w1.room (1 - k)) (w1.ks (1 - k)) (w1.c (1 - k)) (w1.t (1 - k)) :: StAt (w1.st (1 - k)) (w1.room (1 - k)) (w1.ks (1 - k)) (w1.c (1 - k)) (w1.t (1 - k)) :: own pl (.lst [.ref (w1.p 0), .ref (w1.p 1)]) :: own sl (.lst [.ref (w1.st 0), .ref (w1.st 1)]) :: own hd (.lst (items.map (fun x => V.ref x.1) ++ [.ref pn])) :: Sh (HeldP (items ++ [(pn, r1', cp, ys)])) :: []) (by walk_at "perm")
      rw [show items.map (fun x => V.ref x.1) ++ [V.ref pn] = (items ++ [(pn, r1', cp, ys)]).map (fun x => V.ref x.1) from by rw [List.map_append]; rfl] at S
      refine w_ixL (by walk_at "sq") (at2 (f := w1.p) hk) ?_
      walk_at "w"
      refine c_kept (by walk_at "pull") S fun ys2 r2' H hp2 hs2 S => ?_
      have hl2 : ys2.length ≤ 120 := by rw [hp2.length_eq]; exact l2
      walk_at "w"
      refine c_take (by walk_at "pull") S (by walk_at "num") (by walk_at "num") fun ask H ask_0 ask_1 S => ?_
      walk_at "w"
      have S : Sep [w1.PA K k, w1.SA k, w1.PA K (1 - k), w1.SA (1 - k), Bag b, own pl (.lst [.ref (w1.p 0), .ref (w1.p 1)]), own sl (.lst [.ref (w1.st 0), .ref (w1.st 1)]), own hd (.lst ((items ++ [(pn, r1', cp, ys)]).map fun x => .ref x.1)), Sh (HeldP (items ++ [(pn, r1', cp, ys)]))] H :=
        S.perm (M := PoolAt K (w1.p k) (w1.room k) (w1.ks k) (w1.c k) (w1.t k) :: StAt (w1.st k) (w1.room k) (w1.ks k) (w1.c k) (w1.t k) :: PoolAt K (w1.p (1 - k)) (w1.room (1 - k)) (w1.ks (1 - k)) (w1.c (1 - k)) (w1.t (1 - k)) :: StAt (w1.st (1 - k)) (w1.room (1 - k)) (w1.ks (1 - k)) (w1.c (1 - k)) (w1.t (1 - k)) :: Bag b :: own pl (.lst [.ref (w1.p 0), .ref (w1.p 1)]) :: own sl (.lst [.ref (w1.st 0), .ref (w1.st 1)]) :: own hd (.lst ((items ++ [(pn, r1', cp, ys)]).map fun x => .ref x.1)) :: Sh (HeldP (items ++ [(pn, r1', cp, ys)])) :: []) (by walk_at "perm")
      have S := W2.back hk S
      have hit2 : (items ++ [(pn, r1', cp, ys)]).length = i + 1 := by rw [List.length_append, hit]; rfl
      generalize items ++ [(pn, r1', cp, ys)] = its at S hit2
      refine w_dec (fun hw => ?_) (fun hw => ?_)
      · walk_at "w"
        refine w_forR (fun _ σ H => ∃ v7, σ = [some (.ref a), some (.ref b), some (.ref rl), some (.ref pl), some (.ref sl), some (.ref hd), some (.int (0 + (i : Int))), v7, some (.int k), some (.ref r1'), some (.ref r2'), none, none] ∧ Sep [w1.PA K 0, w1.SA 0, w1.PA K 1, w1.SA 1, Bag b, own pl (.lst [.ref (w1.p 0), .ref (w1.p 1)]), own sl (.lst [.ref (w1.st 0), .ref (w1.st 1)]), own hd (.lst (its.map fun x => .ref x.1)), Sh (HeldP its)] H) ⟨_, rfl, S.perm (by walk_at "perm")⟩ ?_ ?_
        · rintro j σ H hj ⟨v7, rfl, S⟩
          have hjk : ((0 : Int) + j) = 0 ∨ ((0 : Int) + j) = 1 := by have : j < 2 := hj; omega
          walk_at "w"
          refine w_ixL (by walk_at "sq") (at2 (f := w1.p) hjk) ?_
          walk_at "w"
          refine w_ixL (by walk_at "sq") (at2 (f := w1.st) hjk) ?_
          walk_at "w"
          have S := W2.to hjk S
          have g := W2.gk hjk G
          refine c_law_right g.nd g.pos g.l120 (show Pull _ (PoolAt K (w1.p (0 + (j : Int))) (w1.room (0 + (j : Int))) (w1.ks (0 + (j : Int))) (w1.c (0 + (j : Int))) (w1.t (0 + (j : Int)))) _ from .here) (show Pull _ (StAt (w1.st (0 + (j : Int))) (w1.room (0 + (j : Int))) (w1.ks (0 + (j : Int))) (w1.c (0 + (j : Int))) (w1.t (0 + (j : Int)))) _ from .here) S fun H S => ?_
          walk_at "w"
          exact ⟨_, rfl, W2.back hjk S⟩
        rintro σ H ⟨v7, rfl, S⟩
        exact ⟨w1, its, _, _, _, _, _, rfl, G, hit2, S⟩
      · walk_at "w"
        exact ⟨w1, its, _, _, _, _, _, rfl, G, hit2, S⟩
    · rintro σ H ⟨w1, items, v6, v7, v8, v9, v10, rfl, G, hit, S⟩
      walk_at "w"
      refine w_forR (fun _ σ H => ∃ v7, σ = [some (.ref a), some (.ref b), some (.ref rl), some (.ref pl), some (.ref sl), some (.ref hd), v6, v7, v8, v9, v10, none, none] ∧ Sep [w1.PA K 0, w1.SA 0, w1.PA K 1, w1.SA 1, Bag b, own pl (.lst [.ref (w1.p 0), .ref (w1.p 1)]), own sl (.lst [.ref (w1.st 0), .ref (w1.st 1)]), own hd (.lst (items.map fun x => .ref x.1)), Sh (HeldP items)] H) ⟨_, rfl, S.perm (by walk_at "perm")⟩ ?_ ?_
      · rintro j σ H hj ⟨v7, rfl, S⟩
        have hjk : ((0 : Int) + j) = 0 ∨ ((0 : Int) + j) = 1 := by have : j < 2 := hj; omega
        walk_at "w"
        refine w_ixL (by walk_at "sq") (at2 (f := w1.p) hjk) ?_
        walk_at "w"
        refine w_ixL (by walk_at "sq") (at2 (f := w1.st) hjk) ?_
        walk_at "w"
        have S := W2.to hjk S
        have g := W2.gk hjk G
        refine c_law_right g.nd g.pos g.l120 (show Pull _ (PoolAt K (w1.p (0 + (j : Int))) (w1.room (0 + (j : Int))) (w1.ks (0 + (j : Int))) (w1.c (0 + (j : Int))) (w1.t (0 + (j : Int)))) _ from .here) (show Pull _ (StAt (w1.st (0 + (j : Int))) (w1.room (0 + (j : Int))) (w1.ks (0 + (j : Int))) (w1.c (0 + (j : Int))) (w1.t (0 + (j : Int)))) _ from .here) S fun H S => ?_
        walk_at "w"
        exact ⟨_, rfl, W2.back hjk S⟩
      rintro σ H ⟨v7, rfl, S⟩
      walk_at "w"
      refine w_lcLk S (fun H S => by walk_at "sq") (fun i acc => acc = (List.replicate i true).map V.bl) rfl ?_ ?_
      · rintro D i x acc H' hx rfl S
        obtain ⟨it, hz, rfl⟩ : ∃ it, items[i]? = some it ∧ V.ref it.1 = x := by
          rw [List.getElem?_map] at hx
          exact Option.map_eq_some_iff.mp hx
        have hi := (List.getElem?_eq_some_iff.mp hz).1
        have hh := (S.sh up_held (by walk_at "pull")) it (List.mem_of_getElem? hz)
        refine w_gTup (.inl (.inl hh.1)) rfl ?_
        walk_at "w"
        refine ⟨rfl, ?_⟩
        walk_at "w"
        refine w_eqInts (.inl (.inl hh.2.1)) (.inl (.inl hh.2.2)) ?_
        rw [decide_eq_true rfl]
        exact LcT.mkK (by walk_at "perm") S (by rw [List.length_map, List.length_replicate, sizeLine_eq]; omega) (repV_snoc i)
      rintro D acc H' rfl S
      walk_at "w"
      refine w_allT (by walk_at "sq") ?_
      exact q _

end
abbrev R : PySem.W.OpenRow := PySem.W.OpenLaw.row PySem.Challenge.rw_lentloft_k25_two_pools_again
abbrev hk : PySem.W.Hook := He.hookD 5 fa fn
def ob (s : PySem.W.SharedT) : He.AlD := He.obsDG 5 fa fn (HandSHeadRun.getT s)
theorem ob_eq (s : PySem.W.SharedT) : ob s = hk.obs s.abs := He.obsDG_eq (HandSHeadRun.getT_eq s)
def loose : List PySem.Str := (["LoftError", "Wrong", "NoRoom", "NoGrain", "MOST_CONTENT", "is_whole", "is_between", "is_content", "MOST_ROOM", "Pool", "_law_whole", "_law_bag", "_law_take", "_law_content", "_law_free", "_law_right", "_law_step"] : List PySem.Str)
set_option maxHeartbeats 0 in
theorem run (w : World) : HandSHeadRun.RunEq R (PySem.W.view R.prog [21]) hk ob 6000 loose w := by
  intro os
  kernel_rfl
end Lo
open PySem PySem.W PySem.Calls PyProof.Rows
set_option maxRecDepth 100000 in
set_option maxHeartbeats 0 in
theorem PySem.Challenge.cw_lentloft_k25_two_pools_again_holds : PySem.Challenge.rw_lentloft_k25_two_pools_again.Holds := by
  w_on; o_law
  refine HandSHeadRun.head_any (r := OpenLaw.row PySem.Challenge.rw_lentloft_k25_two_pools_again) (q := view (OpenLaw.row PySem.Challenge.rw_lentloft_k25_two_pools_again).prog [21]) (H := Lo.hk) (ob := Lo.ob) (M := 6000) (loose := Lo.loose) (d := HandSHeadRun.topDef (OpenLaw.row PySem.Challenge.rw_lentloft_k25_two_pools_again).prog 21) (kwd := []) Lo.ob_eq
    (by kernel_rfl) (fun s => by kernel_rfl) Lo.run (by kernel_rfl) (by kernel_rfl) (by kernel_rfl) (by rfl) (by first | assumption | decide +kernel) (by decide +kernel) ⟨rfl, rfl, rfl, rfl, rfl, by decide +kernel⟩ ?hw ?hc
  case hw => w_witness2
  case hc =>
    refine Lo.walk_ofEB (l := PySem.Challenge.rw_lentloft_k25_two_pools_again) (n := 63) (k := 6) (x := "_law_script") (CX := fun _ => L2.CX0) rfl (by decide) (by kernel_rfl) ⟨rfl, by decide, by decide⟩ ?F (fun _ _ _ _ _ z => z)
    intro w mg fa h Y G hmg0
    obtain ⟨K, KX, c⟩ := Y
    have T : Lo.Tx K mg := ⟨⟨h, KX, G⟩, c⟩
    have hmg : mg ("law" : PySem.Str) = some (.ref fa) := by
      have e : (HandSHeadRun.topDef (OpenLaw.row PySem.Challenge.rw_lentloft_k25_two_pools_again).prog 21).name = ("law" : PySem.Str) := by kernel_rfl
      rw [← e]
      exact hmg0
    have ea : fa = He.ga K "law" := by
      have e1 : some (Value.ref fa) = some (Value.ref (He.ga K "law")) := hmg.symm.trans (Lo.T_g_law T)
      exact Value.ref.inj (Option.some.inj e1)
    obtain ⟨fd, FD⟩ := T.says.def_ 10 (d := Lo.d_law) rfl
    have hb := FD.bindsA (ps := ["_law_script"]) fun _ _ _ _ _ _ us hl => match us, hl with | [_], _ => rfl
    refine ⟨K, fd, Lo.sp_law K, KX, fun s u => hb s [u] rfl, fun H a ns hl hz hO hS => Lo.law_in H a ns hl hz hS, fun base _ _ => ?_⟩
    rw [ea]
    exact Lo.ok_law (P := (PySem.Challenge.rw_lentloft_k25_two_pools_again).prog) (w := w) (base := base) T FD
#print axioms PySem.Challenge.cw_lentloft_k25_two_pools_again_holds

